import PyProof.Rows.All
import Wide.All
import OpenK.AllK
import Wide.FinOn
import HandS.ForMost
import HandS.ForExc
import HandS.CallSlots
import HandS.TupAny
import HandS.TupMul
import HandS.Flow
import HandS.Wide
import KE.DataCmp
import KE.SortData
import KE.SortLaws
import KE.DataMinMax
import HandS.IsInst
import HandS.ExcIs
import PyProof.Rows.ReprOcc
import HandS.Zip
import HandS.Rev
import HandS.NoneIn
import HandS.Style
import HandS.ExcOwn
import HandS.Deep
import HandS.WideBits
import HandS.Flt
import HandS.SortInts
import KE.DataFind
import HandS.TryMany
import KE.KRevSl
import HandS.CallLocal
import HandS.Defaults
import HandS.WordsExc
import PyProof.TableCode
import PySem.Challenge.RW_belowthree_k03_whole_rows_that_come_roun
set_option Elab.async false
set_option linter.all false
set_option maxRecDepth 100000
set_option autoImplicit false

section
open PySem PySem.W PyProof.Rows L2
set_option maxHeartbeats 0 in
open_top hd for PySem.Challenge.rw_belowthree_k03_whole_rows_that_come_roun
end

/-! Rf1: a pure evaluator for a small part of Python, over pure data. -/
namespace Rf

/-- pure data -/
inductive D where
  | non | bl (b : Bool) | int (i : Int) | str (s : List Nat) | tup (ds : List D) | lst (ds : List D) | scr (ds : List D) | fn (f : Nat) | dic (kvs : List (D × D))
  deriving Inhabited
/-- a slot: a value, or a container that this frame alone may change -/
inductive Sl where
  | v (d : D) | o (d : D)
  deriving Inhabited
abbrev Env := List (Option Sl)
/-- an exception: its class, its argument -/
structure Xc where
  c : Nat
  a : Option D
inductive R (α : Type) where
  | ok (a : α) (ρ : Env) | ex (x : Xc) (ρ : Env) | bad
inductive FR where
  | ok (s : Sl) (as : List Sl) | ex (x : Xc) (as : List Sl) | bad
inductive O where
  | nx (ρ : Env) | rt (s : Sl) (ρ : Env) | bk (ρ : Env) | ct (ρ : Env) | ex (x : Xc) (ρ : Env) | bad
abbrev PhiT := Nat → List Sl → FR

def Sl.d : Sl → D
  | .v d => d
  | .o d => d
@[simp] theorem Sl.d_v (d : D) : (Sl.v d).d = d := rfl
@[simp] theorem Sl.d_o (d : D) : (Sl.o d).d = d := rfl
def R.bind {α β : Type} (r : R α) (f : α → Env → R β) : R β :=
  match r with
  | .ok a ρ => f a ρ
  | .ex x ρ => .ex x ρ
  | .bad => .bad
@[simp] theorem R.bind_ok {α β : Type} (a : α) (ρ : Env) (f : α → Env → R β) : (R.ok a ρ).bind f = f a ρ := id rfl
@[simp] theorem R.bind_ex {α β : Type} (x : Xc) (ρ : Env) (f : α → Env → R β) : (R.ex x ρ : R α).bind f = .ex x ρ := id rfl
@[simp] theorem R.bind_bad {α β : Type} (f : α → Env → R β) : (R.bad : R α).bind f = .bad := id rfl
/-- a value of what may be missing -/
def ofO {α : Type} (o : Option α) (ρ : Env) : R α :=
  match o with
  | some a => .ok a ρ
  | none => .bad
@[simp] theorem ofO_some {α : Type} (a : α) (ρ : Env) : ofO (some a) ρ = .ok a ρ := id rfl
@[simp] theorem ofO_none {α : Type} (ρ : Env) : (ofO none ρ : R α) = .bad := id rfl

def gt (ρ : Env) (i : Nat) : Option Sl :=
  match ρ[i]? with
  | some (some s) => some s
  | _ => none
/-- a slot's container is changed no more -/
def fz (ρ : Env) (i : Nat) : Env :=
  match gt ρ i with
  | some (.o d) => ρ.set i (some (.v d))
  | _ => ρ

/-- the largest length of a list, a text -/
def SZ : Nat := 16777216

/-! ### data -/
mutual
def dep : D → Nat
  | .tup ds => deps ds + 1
  | .lst ds => deps ds + 1
  | _ => 0
def deps : List D → Nat
  | [] => 0
  | d :: ds => max (dep d) (deps ds)
end
def num : D → Option Int
  | .int i => some i
  | .bl b => some (if b then 1 else 0)
  | _ => none
mutual
/-- == of data -/
def peq : D → D → Bool
  | .non, .non => true
  | .bl a, .bl b => a == b
  | .bl a, .int j => (if a then 1 else 0) == j
  | .int i, .bl b => i == (if b then 1 else 0)
  | .int i, .int j => i == j
  | .str x, .str y => x == y
  | .lst xs, .lst ys => peqs xs ys
  | .tup xs, .tup ys => peqs xs ys
  | _, _ => false
def peqs : List D → List D → Bool
  | [], [] => true
  | x :: xs, y :: ys => peq x y && peqs xs ys
  | _, _ => false
end
mutual
/-- data without functions and dicts -/
def pln : D → Bool
  | .fn _ => false
  | .dic _ => false
  | .scr _ => false
  | .tup ds => plns ds
  | .lst ds => plns ds
  | _ => true
def plns : List D → Bool
  | [] => true
  | d :: ds => pln d && plns ds
end
/-- may be compared by == -/
def eqOk (a b : D) : Bool := pln a && pln b && decide (min (dep a) (dep b) ≤ 64)

/-- truth of data -/
def tru : D → Option Bool
  | .non => some false
  | .bl b => some b
  | .int i => some (i != 0)
  | .str s => if s.length ≤ SZ then some (!s.isEmpty) else none
  | .tup ds => some (!ds.isEmpty)
  | .lst ds => some (!ds.isEmpty)
  | .scr _ => none
  | .fn _ => none
  | .dic _ => none
/-- a factor below 2^64, or both together below some hundred million bits -/
def mulOk (i j : Int) : Bool := decide (i.natAbs < 18446744073709551616) || decide (j.natAbs < 18446744073709551616) || decide (i.natAbs.log2 + j.natAbs.log2 < 134217000)

def ixN (n : Nat) (i : Int) : Option Nat := if 0 ≤ i then (if i < n then some i.toNat else none) else if -(n : Int) ≤ i then some (i + n).toNat else none
def atI {α : Type} (xs : List α) (i : Int) : Option α := (ixN xs.length i).bind fun j => xs[j]?
def sIx (n d : Nat) : Option Int → Nat
  | none => d
  | some v => if v < 0 then (v + (n : Int)).toNat else min v.toNat n
def cut {α : Type} (xs : List α) (lo hi : Option Int) : List α := (xs.drop (sIx xs.length 0 lo)).take (sIx xs.length xs.length hi - sIx xs.length 0 lo)

/-- what a loop walks -/
def itm : D → Option (List D)
  | .tup ds => some ds
  | .lst ds => some ds
  | .scr ds => some ds
  | .str s => some (s.map fun c => .str [c])
  | .dic kvs => some (kvs.map (·.1))
  | _ => none

def intO : D → Option Int
  | .int i => some i
  | _ => none
/-! ### operators -/
inductive Bop where
  | add | sub | mul | fdiv | mod | pow | shl | shr
  deriving DecidableEq
def rng62 (i : Int) : Bool := Nat.ble (i.natAbs + 1) 4611686018427387904
theorem rng62_iff {i : Int} : rng62 i = true ↔ i.natAbs < 4611686018427387904 := by
  unfold rng62
  rw [Nat.ble_eq]
  exact Iff.rfl
def binD (op : Bop) (a b : D) : Option Sl :=
  match op, a, b with
  | .add, .int i, .int j => some (.v (.int (i + j)))
  | .add, .str x, .str y => if x.length + y.length ≤ SZ then some (.v (.str (x ++ y))) else none
  | .add, .tup x, .tup y => if x.length + y.length ≤ SZ then some (.v (.tup (x ++ y))) else none
  | .add, .lst x, .lst y => if x.length + y.length ≤ SZ then some (.o (.lst (x ++ y))) else none
  | .sub, .int i, .int j => some (.v (.int (i - j)))
  | .mul, .int i, .int j => if mulOk i j then some (.v (.int (i * j))) else none
  | .mul, .str x, .int k => if 0 ≤ k ∧ k ≤ 1000000 ∧ x.length * k.toNat ≤ 1000000 then some (.v (.str (List.replicate k.toNat x).flatten)) else none
  | .mul, .tup x, .int k => if 1 ≤ k ∧ k ≤ 1000 ∧ x.length ≤ 1000 ∧ x.length ≠ 0 then some (.v (.tup (List.replicate k.toNat x).flatten)) else none
  | .mul, .lst x, .int k => if 0 ≤ k ∧ k ≤ 1000000 ∧ x.length * k.toNat ≤ 1000000 then some (.o (.lst (List.replicate k.toNat x).flatten)) else none
  | .fdiv, .int i, .int j => if j = 0 ∨ 9000 ≤ j.natAbs.log2 then none else some (.v (.int (i.fdiv j)))
  | .mod, .int i, .int j => if j = 0 then none else some (.v (.int (i.fmod j)))
  | .pow, .int i, .int j => if 0 ≤ j ∧ j ≤ 1000000 ∧ i.natAbs < 18446744073709551616 then some (.v (.int (i ^ j.toNat))) else none
  | .shl, .int i, .int j => if 0 ≤ j ∧ j ≤ 1000000 ∧ i.natAbs < 18446744073709551616 then some (.v (.int (i * 2 ^ j.toNat))) else none
  | .shr, .int i, .int j => if 0 ≤ j then some (.v (.int (i / 2 ^ j.toNat))) else none
  | _, _, _ => none

inductive Cop where
  | eq | ne | lt | le | gt | ge | mem | nmem | is | isnt
  deriving DecidableEq
def memD (a b : D) : Option Bool :=
  match a, b with
  | .str x, .str y => (match x with | [c] => some (y.contains c) | _ => none)
  | a, .tup ds => if eqOk a (.tup ds) then some (ds.any fun d => peq d a) else none
  | a, .lst ds => if eqOk a (.lst ds) then some (ds.any fun d => peq d a) else none
  | a, .dic kvs => if pln a then some (kvs.any fun d => peq d.1 a) else none
  | _, _ => none
/-- is x < y of lists of numbers -/
def lexN (x y : List Nat) : Bool := decide (x < y)
mutual
/-- data of one make: what < needs -/
def alk : D → D → Bool
  | .non, .non => true
  | .bl _, .bl _ => true
  | .int _, .int _ => true
  | .str _, .str _ => true
  | .lst xs, .lst ys => alks xs ys
  | .tup xs, .tup ys => alks xs ys
  | _, _ => false
def alks : List D → List D → Bool
  | x :: xs, y :: ys => alk x y && alks xs ys
  | [], _ => true
  | _, [] => true
end
mutual
/-- < of data of one make -/
def plt : D → D → Bool
  | .bl a, .bl b => !a && b
  | .int i, .int j => decide (i < j)
  | .str x, .str y => lexN x y
  | .lst xs, .lst ys => plts xs ys
  | .tup xs, .tup ys => plts xs ys
  | _, _ => false
def plts : List D → List D → Bool
  | x :: xs, y :: ys => if peq x y then plts xs ys else plt x y
  | [], _ :: _ => true
  | _, [] => false
end
/-- tuples that < compares -/
def ltOk (a b : List D) : Bool := plns a && plns b && alks a b && decide (deps a ≤ 60)
def cmpD (op : Cop) (a b : D) : Option Bool :=
  match op with
  | .eq => if eqOk a b then some (peq a b) else none
  | .ne => if eqOk a b then some (!peq a b) else none
  | .lt => (match a, b with
    | .int i, .int j => some (decide (i < j))
    | .str x, .str y => some (lexN x y)
    | .tup x, .tup y => if ltOk x y then some (plts x y) else none
    | _, _ => none)
  | .le => (match a, b with
    | .int i, .int j => some (decide (i ≤ j))
    | _, _ => none)
  | .gt => (match a, b with
    | .int i, .int j => some (decide (j < i))
    | _, _ => none)
  | .ge => (match a, b with
    | .int i, .int j => some (decide (j ≤ i))
    | _, _ => none)
  | .is => (match a, b with
    | .bl x, .bl y => some (decide (x = y))
    | _, _ => none)
  | .isnt => (match a, b with
    | .bl x, .bl y => some (!decide (x = y))
    | _, _ => none)
  | .mem => memD a b
  | .nmem => (memD a b).map fun r => !r

/-! ### built-in functions of one value -/
inductive Bi where
  | len | abs | tuple | list | sum | all | any | int | sorted | min | max | str | bitlen | rev | set
  deriving DecidableEq
/-- two values: methods of one argument, functions of two -/
inductive Bi2 where
  | join | count | index | max2 | min2 | split
  deriving DecidableEq
/-- kinds of values, as isinstance asks -/
inductive Kd where
  | int | bool | tup | lst | str | seq | bs
  deriving DecidableEq
def intsD : List D → Option (List Int)
  | [] => some []
  | .int i :: r => (intsD r).map fun ns => i :: ns
  | _ :: _ => none
def boolsD : List D → Option (List Bool)
  | [] => some []
  | .bl b :: r => (boolsD r).map fun bs => b :: bs
  | _ :: _ => none
/-- all of one make with one another -/
def allAlk (ds : List D) : Bool := ds.all fun a => ds.all fun b => alk a b
/-- may be sorted by sorted -/
def srtOk (ds : List D) : Bool := allAlk ds && plns ds && decide (ds.length ≤ SZ) && ((ds.all fun d => match d with | .tup (_ :: _) => true | _ => false) || (ds.all fun d => match d with | .tup _ => false | .non => false | _ => true)) && decide (deps ds ≤ 60)
def insD (x : D) : List D → List D
  | [] => [x]
  | y :: ys => if !plt y x then x :: y :: ys else y :: insD x ys
def srt : List D → List D
  | [] => []
  | x :: xs => insD x (srt xs)
def leastD : List D → Option D
  | [] => none
  | d :: ds => some (ds.foldl (fun m x => if plt x m then x else m) d)
def mostD : List D → Option D
  | [] => none
  | d :: ds => some (ds.foldl (fun m x => if plt m x then x else m) d)
/-- numbers in order -/
def insI (x : Int) : List Int → List Int
  | [] => [x]
  | y :: ys => if x ≤ y then x :: y :: ys else y :: insI x ys
def isort : List Int → List Int
  | [] => []
  | x :: xs => insI x (isort xs)
/-- data of which the least, the greatest is told -/
def mmOk (ds : List D) : Bool := allAlk ds && plns ds && (ds.all fun d => match d with | .non => false | _ => true) && decide (deps ds ≤ 60)
def minI (ds : List D) : Option Sl :=
  match intsD ds with
  | some (n :: ns) => some (.v (.int (ns.foldl min n)))
  | some [] => none
  | none => if mmOk ds then (leastD ds).map .v else none
def maxI (ds : List D) : Option Sl :=
  match intsD ds with
  | some (n :: ns) => some (.v (.int (ns.foldl max n)))
  | some [] => none
  | none => if mmOk ds then (mostD ds).map .v else none
def strsD : List D → Option (List (List Nat))
  | [] => some []
  | .str s :: r => (strsD r).map fun ns => s :: ns
  | _ :: _ => none
def joinN (sep : List Nat) : List (List Nat) → List Nat
  | [] => []
  | [x] => x
  | x :: y :: r => x ++ sep ++ joinN sep (y :: r)
def joinD (sep : List Nat) (ds : List D) : Option Sl :=
  (strsD ds).bind fun ss => if (ss.map List.length).sum + ss.length * sep.length ≤ SZ then some (.v (.str (joinN sep ss))) else none
/-- a number's text -/
def strI (i : Int) : List Nat := (toString i).toList.map Char.toNat
def bi2D (b : Bi2) (x y : D) : Option Sl :=
  match b, x, y with
  | .join, .str s, .lst ds => joinD s ds
  | .join, .str s, .tup ds => joinD s ds
  | .count, .str s, .str [c] => some (.v (.int ((s.count c : Nat) : Int)))
  | .count, .lst ds, d => if eqOk d (.lst ds) then some (.v (.int ((ds.countP fun y => peq y d : Nat) : Int))) else none
  | .count, .tup ds, d => if eqOk d (.tup ds) then some (.v (.int ((ds.countP fun y => peq y d : Nat) : Int))) else none
  | .index, .lst ds, d => if eqOk d (.lst ds) && decide (dep d ≤ 60) && decide (deps ds ≤ 60) then (ds.findIdx? fun y => peq y d).map fun i => .v (.int (i : Nat)) else none
  | .max2, .int i, .int j => some (.v (.int (if j > i then j else i)))
  | .min2, .int i, .int j => some (.v (.int (if j < i then j else i)))
  | _, _, _ => none
/-- what has the method: its class -/
def rcv (b : Bi2) (x : D) : Option String :=
  match b, x with
  | .join, .str _ => some "str"
  | .count, .str _ => some "str"
  | .count, .lst _ => some "list"
  | .split, .str _ => some "str"
  | .index, .lst _ => some "list"
  | _, _ => none
def metD (b : Bi2) (T : String) (x y : D) : Option Sl := if rcv b x = some T then bi2D b x y else none
/-- isinstance -/
def isK (k : Kd) (d : D) : Option Bool :=
  match d with
  | .fn _ => none
  | .scr _ => none
  | .dic _ => none
  | .non => some false
  | .bl _ => some (match k with | .int => true | .bool => true | .bs => true | _ => false)
  | .int _ => some (match k with | .int => true | _ => false)
  | .str _ => some (match k with | .str => true | .bs => true | _ => false)
  | .tup _ => some (match k with | .tup => true | .seq => true | _ => false)
  | .lst _ => some (match k with | .lst => true | .seq => true | _ => false)
def biD (b : Bi) (a : D) : Option Sl :=
  match b, a with
  | .len, .str s => if s.length ≤ SZ then some (.v (.int s.length)) else none
  | .len, .tup ds => some (.v (.int ds.length))
  | .len, .lst ds => some (.v (.int ds.length))
  | .len, .scr ds => some (.v (.int ds.length))
  | .abs, .int i => some (.v (.int (if i < 0 then -i else i)))
  | .tuple, .lst ds => some (.v (.tup ds))
  | .tuple, .tup ds => some (.v (.tup ds))
  | .list, .lst ds => some (.o (.lst ds))
  | .list, .tup ds => some (.o (.lst ds))
  | .list, .scr ds => some (.o (.lst ds))
  | .sum, .lst ds => (intsD ds).map fun ns => .v (.int ns.sum)
  | .all, .lst ds => (boolsD ds).map fun bs => .v (.bl (bs.all id))
  | .any, .lst ds => (boolsD ds).map fun bs => .v (.bl (bs.any id))
  | .int, .int i => some (.v (.int i))
  | .int, .bl k => some (.v (.int (if k then 1 else 0)))
  | .sum, .tup ds => (intsD ds).map fun ns => .v (.int ns.sum)
  | .min, .lst ds => minI ds
  | .min, .tup ds => minI ds
  | .max, .lst ds => maxI ds
  | .max, .tup ds => maxI ds
  | .sorted, .lst ds =>
    match intsD ds with
    | some ns => some (.o (.lst ((isort ns).map .int)))
    | none => if srtOk ds then some (.o (.lst (srt ds))) else none
  | .str, .int i => if i.natAbs.log2 < 1900 then some (.v (.str (strI i))) else none
  | .bitlen, .int i => some (.v (.int ((if i == 0 then 0 else i.natAbs.log2 + 1 : Nat) : Int)))
  | _, _ => none
def ixD (a b : D) : Option D :=
  match a, b with
  | .tup ds, .int i => atI ds i
  | .lst ds, .int i => atI ds i
  | .scr ds, .int i => atI ds i
  | .str s, .int i => if s.length ≤ SZ then (atI s i).map fun c => .str [c] else none
  | _, _ => none
def slD (a : D) (lo hi : Option Int) : Option Sl :=
  match a with
  | .tup ds => some (.v (.tup (cut ds lo hi)))
  | .lst ds => some (.o (.lst (cut ds lo hi)))
  | .scr ds => some (.o (.lst (cut ds lo hi)))
  | .str s => if s.length ≤ SZ then some (.v (.str (cut s lo hi))) else none
  | _ => none
/-- how many a slice from lo down has -/
def sRx (n : Nat) : Option Int → Nat
  | none => n
  | some v => if v < 0 then (v + (n : Int) + 1).toNat else min (v.toNat + 1) n
def rvL {α : Type} (xs : List α) (lo : Option Int) : List α := (xs.take (sRx xs.length lo)).reverse
/-- a[lo::-1] -/
def rvD (a : D) (lo : Option Int) : Option Sl :=
  match a with
  | .tup ds => some (.v (.tup (rvL ds lo)))
  | .lst ds => some (.o (.lst (rvL ds lo)))
  | .scr ds => some (.o (.lst (rvL ds lo)))
  | .str s => if s.length ≤ SZ then some (.v (.str (rvL s lo))) else none
  | _ => none
def rngL : Int → Nat → List D
  | _, 0 => []
  | lo, n + 1 => .int lo :: rngL (lo + 1) n
theorem rngL_eq : ∀ (lo : Int) (n : Nat), rngL lo n = (List.range n).map fun (k : Nat) => .int (lo + (k : Int))
  | lo, 0 => rfl
  | lo, n + 1 => by
    rw [rngL, rngL_eq (lo + 1) n, List.range_succ_eq_map, List.map_cons, List.map_map]
    congr 1
    · simp
    · apply List.map_congr_left
      intro k _
      show D.int (lo + 1 + (k : Int)) = D.int (lo + ((k + 1 : Nat) : Int))
      congr 1
      omega

def rngD : Int → Nat → List D
  | _, 0 => []
  | hi, n + 1 => .int hi :: rngD (hi - 1) n
theorem rngD_eq : ∀ (hi : Int) (n : Nat), rngD hi n = (List.range n).map fun (k : Nat) => .int (hi - (k : Int))
  | hi, 0 => rfl
  | hi, n + 1 => by
    rw [rngD, rngD_eq (hi - 1) n, List.range_succ_eq_map, List.map_cons, List.map_map]
    congr 1
    · simp
    · apply List.map_congr_left
      intro k _
      show D.int (hi - 1 - (k : Int)) = D.int (hi - ((k + 1 : Nat) : Int))
      congr 1
      omega
/-! ### the syntax -/
inductive Tg where
  | nm (i : Nat) | tup (ts : List Tg)
mutual
inductive E where
  | var (i : Nat)
  | mv (i : Nat)
  | cst (d : D)
  | bin (op : Bop) (a b : P)
  | neg (a : E)
  | tst (t : T)
  | and2 (a b : E)
  | or2 (a b : E)
  | ite (t : T) (a b : E)
  | call (f : Nat) (as : A) (dfl : List Int)
  | callv (i : Nat) (as : A)
  | bi (b : Bi) (a : P)
  | bi2 (b : Bi2) (x y : P)
  | met (b : Bi2) (x y : P)
  | isk (k : Kd) (a : P)
  | ix (a b : P)
  | slc (a : P) (lo hi : Option E)
  | rvs (a : P) (lo : Option E)
  | tup (es : Es)
  | lst (es : Es)
  | app (i : Nat) (e : E)
  | ext (i : Nat) (e : E)
  | pop (i : Nat)
  | bi3 (b : Bi2) (x y z : P)
  | lc (own : List Nat) (tg : Tg) (it : Ir) (c : Option T) (e : E)
  | lc2 (own vs1 : List Nat) (tg : Tg) (it : Ir) (c : Option T) (tg1 : Tg) (it1 : Ir) (c1 : Option T) (e : E)
inductive Es where
  | nil | cons (e : E) (es : Es)
inductive A where
  | nil | ref (i : Nat) (as : A) | val (e : E) (as : A)
inductive P where
  | pk (i : Nat) | val (e : E)
inductive T where
  | cmp (op : Cop) (a b : P)
  | isN (a : P)
  | and2 (a b : T)
  | or2 (a b : T)
  | not (a : T)
  | tr (e : P)
  | ite (t a b : T)
  | chain (op op2 : Cop) (a b c : P)
inductive Ir where
  | sq (e : E) | rng1 (b : E) | rng (a b : E) | rng3 (a b c : E) | enum (e : E) | zip (a b : E) | rev (e : E)
end
def A.app : A → A → A
  | .nil, b => b
  | .ref i a, b => .ref i (a.app b)
  | .val e a, b => .val e (a.app b)
mutual
inductive S where
  | asg (tg : Tg) (e : E)
  | par (is : List Nat) (es : Es)
  | stx (i : Nat) (x : E) (e : E)
  | aug (i : Nat) (x : E) (e : E)
  | ex (e : E)
  | ret (e : E)
  | retn
  | ite (t : T) (a b : Ss)
  | fr (tg : Tg) (it : Ir) (b : Ss)
  | whl (t : T) (b : Ss)
  | brk | cont | pass
  | raise (c : Nat)
  | tr (b : Ss) (hs : List (Nat × D))
inductive Ss where
  | nil | cons (s : S) (ss : Ss)
end
/-- a def: how many parameters, how many names, which parameters it stores, its body -/
structure Fc where
  np : Nat
  nl : Nat
  st : List Nat
  body : Ss

/-! ### running -/
/-- what a target of several names takes apart -/
def unp : D → Option (List D)
  | .tup ds => some ds
  | .lst ds => some ds
  | _ => none
mutual
def asg : Tg → Sl → Env → Option Env
  | .nm i, s, ρ => some (ρ.set i (some s))
  | .tup ts, s, ρ =>
    (unp s.d).bind fun ds => asgs ts ds ρ
def asgs : List Tg → List D → Env → Option Env
  | [], [], ρ => some ρ
  | t :: ts, d :: ds, ρ => (asg t (.v d) ρ).bind fun ρ => asgs ts ds ρ
  | _, _, _ => none
end
/-- the containers that are handed over for the time of a call -/
def lend : List (Nat ⊕ D) → Env → Option (List Sl × Env)
  | [], ρ => some ([], ρ)
  | .inr d :: r, ρ => (lend r ρ).map fun p => (.v d :: p.1, p.2)
  | .inl i :: r, ρ =>
    match gt ρ i with
    | some (.v d) => (lend r ρ).map fun p => (.v d :: p.1, p.2)
    | some (.o d) => (lend r (ρ.set i none)).map fun p => (.o d :: p.1, p.2)
    | none => none
def back : List (Nat ⊕ D) → List Sl → List Sl → Env → Env
  | .inl i :: r, .o _ :: ss, s' :: ss', ρ => back r ss ss' (ρ.set i (some s'))
  | _ :: r, _ :: ss, _ :: ss', ρ => back r ss ss' ρ
  | _, _, _, ρ => ρ
/-- an operand, read when it is used -/
def rs (ρ : Env) : Nat ⊕ D → Option D
  | .inl i => (gt ρ i).map Sl.d
  | .inr d => some d
def callF (Φ : PhiT) (f : Nat) (xs : List (Nat ⊕ D)) (ρ : Env) : R Sl :=
  match lend xs ρ with
  | none => .bad
  | some (ss, ρ1) =>
    match Φ f ss with
    | .ok s ss' => .ok s (back xs ss ss' ρ1)
    | .ex x ss' => .ex x (back xs ss ss' ρ1)
    | .bad => .bad
def wipeE (ρ : Env) : List Nat → Env
  | [] => ρ
  | v :: vs => (wipeE ρ vs).set v none
def fzs (ρ : Env) : List Nat → Env
  | [] => ρ
  | v :: vs => fz (fzs ρ vs) v
/-- the block's own names as they were ahead of it -/
def restE (old ρ : Env) : List Nat → Env
  | [] => ρ
  | v :: vs => (restE old ρ vs).set v (old[v]?.getD none)
def lcL (tg : Tg) (c : Env → R Bool) (f : Env → R Sl) (own : List Nat) : List D → Env → R (List D)
  | [], ρ => .ok [] ρ
  | x :: xs, ρ =>
    match asg tg (.v x) ρ with
    | none => .bad
    | some ρ =>
      (c ρ).bind fun b ρ =>
        if b then (f ρ).bind fun s ρ => (lcL tg c f own xs (wipeE ρ own)).bind fun ds ρ => .ok (s.d :: ds) ρ
        else lcL tg c f own xs (wipeE ρ own)
/-- two clauses -/
def lcL2 (tg : Tg) (c : Env → R Bool) (it1 : Env → R (List D)) (tg1 : Tg) (c1 : Env → R Bool) (f : Env → R Sl) (own vs1 : List Nat) : Nat → List D → Env → R (List D)
  | _, [], ρ => .ok [] ρ
  | n, x :: xs, ρ =>
    match asg tg (.v x) ρ with
    | none => .bad
    | some ρ =>
      (c ρ).bind fun b ρ =>
        if b then (it1 ρ).bind fun ys ρ =>
          if n + ys.length ≤ SZ then (lcL tg1 c1 f vs1 ys (wipeE ρ vs1)).bind fun ds ρ => (lcL2 tg c it1 tg1 c1 f own vs1 (n + ys.length) xs (wipeE ρ own)).bind fun es ρ => .ok (ds ++ es) ρ
          else .bad
        else lcL2 tg c it1 tg1 c1 f own vs1 n xs (wipeE ρ own)
def noEx {α : Type} (r : R α) : R α :=
  match r with
  | .ex _ _ => .bad
  | r => r
def lcR (own : List Nat) (tg : Tg) (c : Env → R Bool) (f : Env → R Sl) (xs : List D) (ρ : Env) : R Sl :=
  if xs.length ≤ SZ then
    let ρ0 := fzs ρ own
    (noEx (lcL tg c f own xs (wipeE ρ0 own))).bind fun ds ρ1 => .ok (.o (.lst ds)) (restE ρ0 ρ1 own)
  else .bad
def lcR2 (own vs1 : List Nat) (tg : Tg) (c : Env → R Bool) (it1 : Env → R (List D)) (tg1 : Tg) (c1 : Env → R Bool) (f : Env → R Sl) (xs : List D) (ρ : Env) : R Sl :=
  let ρ0 := fzs ρ own
  (noEx (lcL2 tg c it1 tg1 c1 f own vs1 0 xs (wipeE ρ0 own))).bind fun ds ρ1 => .ok (.o (.lst ds)) (restE ρ0 ρ1 own)
def appS (i : Nat) (d : D) (ρ : Env) : R Sl :=
  match gt ρ i with
  | some (.o (.lst ds)) => if ds.length < SZ then .ok (.v .non) (ρ.set i (some (.o (.lst (ds ++ [d]))))) else .bad
  | _ => .bad
def extS (i : Nat) (d : D) (ρ : Env) : R Sl :=
  match gt ρ i, d with
  | some (.o (.lst ds)), .lst es => if ds.length + es.length ≤ SZ then .ok (.v .non) (ρ.set i (some (.o (.lst (ds ++ es))))) else .bad
  | _, _ => .bad
def popS (i : Nat) (ρ : Env) : R Sl :=
  match gt ρ i with
  | some (.o (.lst ds)) =>
    match ds[ds.length - 1]? with
    | some d => .ok (.v d) (ρ.set i (some (.o (.lst ds.dropLast))))
    | none => .bad
  | _ => .bad
def bi3D (b : Bi2) (x y z : D) : Option Sl :=
  match b, x, y, z with
  | .max2, .int i, .int j, .int k => some (.v (.int (if k > (if j > i then j else i) then k else (if j > i then j else i))))
  | .min2, .int i, .int j, .int k => some (.v (.int (if k < (if j < i then j else i) then k else (if j < i then j else i))))
  | _, _, _, _ => none
def stxS (i : Nat) (k d : D) (ρ : Env) : Option Env :=
  match gt ρ i, k with
  | some (.o (.lst ds)), .int k => (ixN ds.length k).map fun j => ρ.set i (some (.o (.lst (ds.set j d))))
  | _, _ => none
def augR (l k : D) : Option Int :=
  match l, k with
  | .lst ds, .int q => (atI ds q).bind intO
  | _, _ => none
def rngOf (a b : D) : Option (List D) :=
  match a, b with
  | .int i, .int j => if rng62 i && rng62 j then some (rngL i (j - i).toNat) else none
  | _, _ => none
/-- range(a, b, -1) alone -/
def rngOf3 (a b c : D) : Option (List D) :=
  match a, b, c with
  | .int i, .int j, .int k => if rng62 i && rng62 j && decide (k = -1) then some (rngD i (i - j).toNat) else none
  | _, _, _ => none
def enumL (k : Nat) : List D → List D
  | [] => []
  | d :: ds => .tup [.int (k : Int), d] :: enumL (k + 1) ds
def enumD : D → Option (List D)
  | .lst ds => some (enumL 0 ds)
  | _ => none
def zipL : List D → List D → List D
  | x :: xs, y :: ys => .tup [x, y] :: zipL xs ys
  | _, _ => []
def zipD (a b : D) : Option (List D) :=
  match a, b with
  | .lst xs, .lst ys => some (zipL xs ys)
  | .tup xs, .tup ys => some (zipL xs ys)
  | _, _ => none
def revD : D → Option (List D)
  | .lst ds => some ds.reverse
  | .tup ds => some ds.reverse
  | _ => none
def isNon : D → Bool
  | .non => true
  | _ => false

section
variable (Φ : PhiT)
mutual
def evE : E → Env → R Sl
  | .var i, ρ =>
    match gt ρ i with
    | some s => .ok (.v s.d) (fz ρ i)
    | none => .bad
  | .mv i, ρ =>
    match gt ρ i with
    | some (.v d) => .ok (.v d) ρ
    | some (.o d) => .ok (.o d) (ρ.set i none)
    | none => .bad
  | .cst d, ρ => .ok (.v d) ρ
  | .bin op a b, ρ => (evP a ρ).bind fun x ρ => (evP b ρ).bind fun y ρ => ofO ((rs ρ x).bind fun x => (rs ρ y).bind fun y => binD op x y) ρ
  | .neg a, ρ => (evE a ρ).bind fun x ρ => ofO ((intO x.d).map fun i => .v (.int (-i))) ρ
  | .tst t, ρ => (evT t ρ).bind fun b ρ => .ok (.v (.bl b)) ρ
  | .and2 a b, ρ => (evE a ρ).bind fun x ρ =>
    match tru x.d with
    | some true => evE b ρ
    | some false => .ok x ρ
    | none => .bad
  | .or2 a b, ρ => (evE a ρ).bind fun x ρ =>
    match tru x.d with
    | some true => .ok x ρ
    | some false => evE b ρ
    | none => .bad
  | .ite t a b, ρ => (evT t ρ).bind fun c ρ => if c then evE a ρ else evE b ρ
  | .call f as dfl, ρ => (evA as ρ).bind fun xs ρ => callF Φ f (xs ++ dfl.map fun i => .inr (.int i)) ρ
  | .callv i as, ρ =>
    match gt ρ i with
    | some (.v (.fn f)) => (evA as ρ).bind fun xs ρ => callF Φ f xs ρ
    | _ => .bad
  | .bi b a, ρ => (evP a ρ).bind fun x ρ => ofO ((rs ρ x).bind fun x => biD b x) ρ
  | .bi2 b x y, ρ => (evP x ρ).bind fun x ρ => (evP y ρ).bind fun y ρ => ofO ((rs ρ x).bind fun x => (rs ρ y).bind fun y => bi2D b x y) ρ
  | .met b x y, ρ => (evP x ρ).bind fun x ρ =>
    match (rs ρ x).bind (rcv b) with
    | some T => (evP y ρ).bind fun y ρ => ofO ((rs ρ x).bind fun x => (rs ρ y).bind fun y => metD b T x y) ρ
    | none => .bad
  | .isk k a, ρ => (evP a ρ).bind fun x ρ => ofO ((rs ρ x).bind fun x => (isK k x).map fun b => .v (.bl b)) ρ
  | .ix a b, ρ => (evP a ρ).bind fun x ρ => (evP b ρ).bind fun y ρ => ofO ((rs ρ x).bind fun x => (rs ρ y).bind fun y => (ixD x y).map .v) ρ
  | .slc a lo hi, ρ => (evP a ρ).bind fun x ρ => (evOI lo ρ).bind fun l ρ => (evOI hi ρ).bind fun h ρ => ofO ((rs ρ x).bind fun x => slD x l h) ρ
  | .rvs a lo, ρ => (evP a ρ).bind fun x ρ => (evOI lo ρ).bind fun l ρ => ofO ((rs ρ x).bind fun x => rvD x l) ρ
  | .tup es, ρ => (evEs es ρ).bind fun ds ρ => if ds.length ≤ SZ then .ok (.v (.tup ds)) ρ else .bad
  | .lst es, ρ => (evEs es ρ).bind fun ds ρ => if ds.length ≤ SZ then .ok (.o (.lst ds)) ρ else .bad
  | .app i e, ρ =>
    match gt ρ i with
    | some (.o (.lst _)) => (evE e ρ).bind fun x ρ => appS i x.d ρ
    | _ => .bad
  | .ext i e, ρ =>
    match gt ρ i with
    | some (.o (.lst _)) => (evE e ρ).bind fun x ρ => extS i x.d ρ
    | _ => .bad
  | .pop i, ρ => popS i ρ
  | .bi3 b x y z, ρ => (evP x ρ).bind fun x ρ => (evP y ρ).bind fun y ρ => (evP z ρ).bind fun z ρ => ofO ((rs ρ x).bind fun x => (rs ρ y).bind fun y => (rs ρ z).bind fun z => bi3D b x y z) ρ
  | .lc own tg it c e, ρ => (evIt it ρ).bind fun xs ρ => lcR own tg (evOT c) (evE e) xs ρ
  | .lc2 own vs1 tg it c tg1 it1 c1 e, ρ => (evIt it ρ).bind fun xs ρ => lcR2 own vs1 tg (evOT c) (evIt it1) tg1 (evOT c1) (evE e) xs ρ
def evEs : Es → Env → R (List D)
  | .nil, ρ => .ok [] ρ
  | .cons e es, ρ => (evE e ρ).bind fun x ρ => (evEs es ρ).bind fun ds ρ => .ok (x.d :: ds) ρ
def evSl : Es → Env → R (List Sl)
  | .nil, ρ => .ok [] ρ
  | .cons e es, ρ => (evE e ρ).bind fun x ρ => (evSl es ρ).bind fun ds ρ => .ok (x :: ds) ρ
def evA : A → Env → R (List (Nat ⊕ D))
  | .nil, ρ => .ok [] ρ
  | .ref i as, ρ => if (gt ρ i).isSome then (evA as ρ).bind fun xs ρ => .ok (.inl i :: xs) ρ else .bad
  | .val e as, ρ => (evE e ρ).bind fun x ρ => (evA as ρ).bind fun xs ρ => .ok (.inr x.d :: xs) ρ
def evOI : Option E → Env → R (Option Int)
  | none, ρ => .ok none ρ
  | some e, ρ => (evE e ρ).bind fun x ρ => ofO ((intO x.d).map some) ρ
def evP : P → Env → R (Nat ⊕ D)
  | .pk i, ρ => if (gt ρ i).isSome then .ok (.inl i) ρ else .bad
  | .val e, ρ => (evE e ρ).bind fun x ρ => .ok (.inr x.d) ρ
def evT : T → Env → R Bool
  | .cmp op a b, ρ => (evP a ρ).bind fun x ρ => (evP b ρ).bind fun y ρ => ofO ((rs ρ x).bind fun x => (rs ρ y).bind fun y => cmpD op x y) ρ
  | .isN a, ρ => (evP a ρ).bind fun x ρ => ofO ((rs ρ x).map isNon) ρ
  | .and2 a b, ρ => (evT a ρ).bind fun c ρ => if c then evT b ρ else .ok false ρ
  | .or2 a b, ρ => (evT a ρ).bind fun c ρ => if c then .ok true ρ else evT b ρ
  | .not a, ρ => (evT a ρ).bind fun c ρ => .ok (!c) ρ
  | .tr e, ρ => (evP e ρ).bind fun x ρ => ofO ((rs ρ x).bind tru) ρ
  | .ite t a b, ρ => (evT t ρ).bind fun c ρ => if c then evT a ρ else evT b ρ
  | .chain op op2 a b c, ρ => (evP a ρ).bind fun x ρ => (evP b ρ).bind fun y ρ => (ofO ((rs ρ x).bind fun x => (rs ρ y).bind fun y => cmpD op x y) ρ).bind fun k ρ =>
    if k then (evP c ρ).bind fun z ρ => ofO ((rs ρ y).bind fun y => (rs ρ z).bind fun z => cmpD op2 y z) ρ else .ok false ρ
def evOT : Option T → Env → R Bool
  | none, ρ => .ok true ρ
  | some t, ρ => evT t ρ
def evIt : Ir → Env → R (List D)
  | .sq e, ρ => (evE e ρ).bind fun x ρ => ofO (itm x.d) ρ
  | .rng1 b, ρ => (evE b ρ).bind fun y ρ => ofO (rngOf (.int 0) y.d) ρ
  | .rng a b, ρ => (evE a ρ).bind fun x ρ => (evE b ρ).bind fun y ρ => ofO (rngOf x.d y.d) ρ
  | .rng3 a b c, ρ => (evE a ρ).bind fun x ρ => (evE b ρ).bind fun y ρ => (evE c ρ).bind fun z ρ => ofO (rngOf3 x.d y.d z.d) ρ
  | .enum e, ρ => (evE e ρ).bind fun x ρ => ofO (enumD x.d) ρ
  | .zip a b, ρ => (evE a ρ).bind fun x ρ => (evE b ρ).bind fun y ρ => ofO (zipD x.d y.d) ρ
  | .rev e, ρ => (evE e ρ).bind fun x ρ => ofO (revD x.d) ρ
end
end

/-- what follows a statement -/
def O.andThen (o : O) (f : Env → O) : O :=
  match o with
  | .nx ρ => f ρ
  | o => o
def R.stm {α : Type} (r : R α) (f : α → Env → O) : O :=
  match r with
  | .ok a ρ => f a ρ
  | .ex x ρ => .ex x ρ
  | .bad => .bad
def ofOE (o : Option Env) : O :=
  match o with
  | some ρ => .nx ρ
  | none => .bad
def forL (tg : Tg) (b : Env → O) : List D → Env → O
  | [], ρ => .nx ρ
  | x :: xs, ρ =>
    match asg tg (.v x) ρ with
    | none => .bad
    | some ρ =>
      match b ρ with
      | .nx ρ => forL tg b xs ρ
      | .ct ρ => forL tg b xs ρ
      | .bk ρ => .nx ρ
      | o => o
def whL (c : Env → R Bool) (b : Env → O) : Nat → Env → O
  | 0, _ => .bad
  | n + 1, ρ => (c ρ).stm fun t ρ =>
    if t then
      match b ρ with
      | .nx ρ => whL c b n ρ
      | .ct ρ => whL c b n ρ
      | .bk ρ => .nx ρ
      | o => o
    else .nx ρ
def parS : List Nat → List Sl → Env → O
  | [], [], ρ => .nx ρ
  | i :: is, d :: ds, ρ => parS is ds (ρ.set i (some d))
  | _, _, _ => .bad
/-- except clauses that answer at once -/
def trO (hs : List (Nat × D)) : O → O
  | .ex x ρ =>
    match x.a with
    | none =>
      match hs.lookup x.c with
      | some d => .rt (.v d) ρ
      | none => .ex x ρ
    | some _ => .bad
  | o => o
/-- turns that a while may take at most -/
def FUEL : Nat := 2 ^ 255
section
variable (Φ : PhiT)
mutual
def evS : S → Env → O
  | .asg tg e, ρ => (evE Φ e ρ).stm fun s ρ => ofOE (asg tg s ρ)
  | .par is es, ρ => (evSl Φ es ρ).stm fun ds ρ => parS is ds ρ
  | .stx i x e, ρ => (evE Φ e ρ).stm fun d ρ => if (gt ρ i).isSome then (evE Φ x ρ).stm fun k ρ => ofOE (stxS i k.d d.d ρ) else .bad
  | .aug i x e, ρ => if (gt ρ i).isSome then (evE Φ x ρ).stm fun k ρ => (ofO ((rs ρ (.inl i)).bind fun l => augR l k.d) ρ).stm fun a ρ => (evE Φ e ρ).stm fun d ρ => ofOE ((intO d.d).bind fun b => stxS i k.d (.int (a + b)) ρ) else .bad
  | .ex e, ρ => (evE Φ e ρ).stm fun _ ρ => .nx ρ
  | .ret e, ρ => (evE Φ e ρ).stm fun s ρ => .rt s ρ
  | .retn, ρ => .rt (.v .non) ρ
  | .ite t a b, ρ => (evT Φ t ρ).stm fun c ρ => if c then evSs a ρ else evSs b ρ
  | .fr tg it b, ρ => (evIt Φ it ρ).stm fun xs ρ => forL tg (evSs b) xs ρ
  | .whl t b, ρ => whL (evT Φ t) (evSs b) FUEL ρ
  | .brk, ρ => .bk ρ
  | .cont, ρ => .ct ρ
  | .pass, ρ => .nx ρ
  | .raise c, ρ => .ex ⟨c, none⟩ ρ
  | .tr b hs, ρ => trO hs (evSs b ρ)
def evSs : Ss → Env → O
  | .nil, ρ => .nx ρ
  | .cons s ss, ρ => (evS s ρ).andThen fun ρ => evSs ss ρ
end
end
/-- the arguments as the def leaves them -/
def give (ρ : Env) (st : List Nat) : Nat → List Sl → Option (List Sl)
  | _, [] => some []
  | i, .v d :: ss => (give ρ st (i + 1) ss).map fun r => .v d :: r
  | i, .o _ :: ss =>
    match gt ρ i with
    | some s => (give ρ st (i + 1) ss).map fun r => s :: r
    | none => none
def fzP (st : List Nat) : Nat → List Sl → List Sl
  | _, [] => []
  | i, s :: ss => (if st.contains i then .v s.d else s) :: fzP st (i + 1) ss
/-- the arguments that the def stores to stay as they are -/
def runF (Φ : PhiT) (c : Fc) (ss0 : List Sl) : FR :=
  if ss0.length = c.np then
    let ss := fzP c.st 0 ss0
    match evSs Φ c.body (ss.map some ++ List.replicate (c.nl - c.np) none) with
    | .nx ρ => (match give ρ c.st 0 ss with | some r => .ok (.v .non) r | none => .bad)
    | .rt s ρ => (match give ρ c.st 0 ss with | some r => .ok s r | none => .bad)
    | .ex x ρ => (match give ρ c.st 0 ss with | some r => .ex x r | none => .bad)
    | _ => .bad
  else .bad
inductive Fn where
  | py (c : Fc)
  | nat (g : PhiT → List Sl → FR)
/-- the calls, so deep at most -/
def Phi (T : Nat → Option Fn) : Nat → PhiT
  | 0 => fun _ _ => .bad
  | k + 1 => fun f ss =>
    match T f with
    | none => .bad
    | some (.py c) => runF (Phi T k) c ss
    | some (.nat g) => g (Phi T k) ss
end Rf

set_option maxHeartbeats 1000000
/-! Rf2: how pure data stand in the heap; the states of a frame. -/
namespace Rf
open PySem PySem.Spec L2

def Sub (F H : Hp) : Prop := ∀ a o, F a = some o → H a = some o
theorem Sub.refl {H : Hp} : Sub H H := fun _ _ h => h
theorem Sub.trans {F G H : Hp} (a : Sub F G) (b : Sub G H) : Sub F H := fun x o h => b x o (a x o h)
theorem Sub.upd {F H : Hp} {p : Addr} {o : HO} (s : Sub F H) (n : H p = none) : Sub F (upd H p o) := fun a u e => by
  rw [upd_ne (ne_of_none (s a u e) n)]
  exact s a u e
theorem Sub.upd2 {F H : Hp} {p : Addr} {o : HO} (s : Sub F H) : Sub (L2.upd F p o) (L2.upd H p o) := fun a u e => by
  unfold L2.upd at e ⊢
  split
  · rename_i h
    rw [if_pos h] at e
    exact e
  · rename_i h
    rw [if_neg h] at e
    exact s a u e
theorem Sub.rd {F H : Hp} (s : Sub F H) {a : Addr} {u : HO} (r : Rd F a u) : Rd H a u := by
  rcases r with r | ⟨o, r⟩
  · exact .inl (s a u r)
  · exact .inr ⟨o, s a _ r⟩
theorem Sub.sqL {F H : Hp} (s : Sub F H) {K : PySem.W.Frag} {a : Addr} {xs : List V} (r : SqL K F a xs) : SqL K H a xs := by
  rcases r with r | r
  · exact .inl (s.rd r)
  · exact .inr r
theorem Sub.sqT {F H : Hp} (s : Sub F H) {K : PySem.W.Frag} {a : Addr} {xs : List V} (r : SqT K F a xs) : SqT K H a xs := by
  rcases r with r | r
  · exact .inl (s.rd r)
  · exact .inr r

mutual
inductive Rp (K : PySem.W.Frag) (FA : Nat → Option Addr) (H : Hp) : V → D → Prop
  | non : Rp K FA H .non .non
  | bl (b : Bool) : Rp K FA H (.bl b) (.bl b)
  | int (i : Int) : Rp K FA H (.int i) (.int i)
  | str (s : List Nat) (h : ∀ c ∈ s, c < 1114112) : Rp K FA H (.str ⟨s.toArray⟩) (.str s)
  | tup {a : Addr} {xs : List V} {ds : List D} : SqT K H a xs → Rps K FA H xs ds → Rp K FA H (.ref a) (.tup ds)
  | lst {a : Addr} {xs : List V} {ds : List D} : H a = some (.lst xs) → Rps K FA H xs ds → Rp K FA H (.ref a) (.lst ds)
  | scr {a : Addr} {xs : List V} {ds : List D} : SqL K H a xs → Rps K FA H xs ds → Rp K FA H (.ref a) (.scr ds)
  | fn {a : Addr} (f : Nat) : FA f = some a → Rp K FA H (.ref a) (.fn f)
inductive Rps (K : PySem.W.Frag) (FA : Nat → Option Addr) (H : Hp) : List V → List D → Prop
  | nil : Rps K FA H [] []
  | cons {v : V} {vs : List V} {d : D} {ds : List D} : Rp K FA H v d → Rps K FA H vs ds → Rps K FA H (v :: vs) (d :: ds)
end
section
variable {K : PySem.W.Frag} {FA : Nat → Option Addr} {F H : Hp}
mutual
theorem Rp.mono (s : Sub F H) : ∀ {v : V} {d : D}, Rp K FA F v d → Rp K FA H v d
  | _, _, .non => .non
  | _, _, .bl b => .bl b
  | _, _, .int i => .int i
  | _, _, .str x h => .str x h
  | _, _, .tup h r => .tup (s.sqT h) (Rps.mono s r)
  | _, _, .lst h r => .lst (s _ _ h) (Rps.mono s r)
  | _, _, .scr h r => .scr (s.sqL h) (Rps.mono s r)
  | _, _, .fn f h => .fn f h
theorem Rps.mono (s : Sub F H) : ∀ {vs : List V} {ds : List D}, Rps K FA F vs ds → Rps K FA H vs ds
  | _, _, .nil => .nil
  | _, _, .cons h r => .cons (Rp.mono s h) (Rps.mono s r)
end
theorem Rps.length : ∀ {vs : List V} {ds : List D}, Rps K FA H vs ds → vs.length = ds.length
  | _, _, .nil => rfl
  | _, _, .cons _ r => congrArg (· + 1) r.length
theorem Rps.append : ∀ {vs us : List V} {ds es : List D}, Rps K FA H vs ds → Rps K FA H us es → Rps K FA H (vs ++ us) (ds ++ es)
  | _, _, _, _, .nil, s => s
  | _, _, _, _, .cons h r, s => .cons h (Rps.append r s)
theorem Rps.take : ∀ {vs : List V} {ds : List D} (n : Nat), Rps K FA H vs ds → Rps K FA H (vs.take n) (ds.take n)
  | _, _, 0, _ => by simpa using Rps.nil
  | _, _, n + 1, .nil => .nil
  | _, _, n + 1, .cons h r => .cons h (Rps.take n r)
theorem Rps.drop : ∀ {vs : List V} {ds : List D} (n : Nat), Rps K FA H vs ds → Rps K FA H (vs.drop n) (ds.drop n)
  | _, _, 0, r => by simpa using r
  | _, _, n + 1, .nil => .nil
  | _, _, n + 1, .cons h r => Rps.drop n r
theorem Rps.get : ∀ {vs : List V} {ds : List D} {i : Nat} {d : D}, Rps K FA H vs ds → ds[i]? = some d → ∃ v, vs[i]? = some v ∧ Rp K FA H v d
  | _, _, _, _, .nil, h => by simp at h
  | _, _, 0, _, .cons h r, e => by
    simp only [List.getElem?_cons_zero, Option.some.injEq] at e
    subst e
    exact ⟨_, rfl, h⟩
  | _, _, i + 1, _, .cons h r, e => by
    simp only [List.getElem?_cons_succ] at e
    obtain ⟨v, e1, h1⟩ := Rps.get r e
    exact ⟨v, by simpa using e1, h1⟩
theorem Rps.getV : ∀ {vs : List V} {ds : List D} {i : Nat} {v : V}, Rps K FA H vs ds → vs[i]? = some v → ∃ d, ds[i]? = some d ∧ Rp K FA H v d
  | _, _, _, _, .nil, h => by simp at h
  | _, _, 0, _, .cons h r, e => by
    simp only [List.getElem?_cons_zero, Option.some.injEq] at e
    subst e
    exact ⟨_, rfl, h⟩
  | _, _, i + 1, _, .cons h r, e => by
    simp only [List.getElem?_cons_succ] at e
    obtain ⟨v, e1, h1⟩ := Rps.getV r e
    exact ⟨v, by simpa using e1, h1⟩
theorem Rps.set : ∀ {vs : List V} {ds : List D} (i : Nat) {v : V} {d : D}, Rps K FA H vs ds → Rp K FA H v d → Rps K FA H (vs.set i v) (ds.set i d)
  | _, _, _, _, _, .nil, _ => .nil
  | _, _, 0, _, _, .cons h r, q => .cons q r
  | _, _, i + 1, _, _, .cons h r, q => .cons h (Rps.set i r q)
theorem Rps.reverse : ∀ {vs : List V} {ds : List D}, Rps K FA H vs ds → Rps K FA H vs.reverse ds.reverse
  | _, _, .nil => .nil
  | _, _, .cons h r => by
    rw [List.reverse_cons, List.reverse_cons]
    exact (Rps.reverse r).append (.cons h .nil)
theorem Rps.intsD : ∀ {vs : List V} {ds : List D} {ns : List Int}, Rps K FA H vs ds → intsD ds = some ns → vs = ns.map V.int
  | _, _, _, .nil, e => by
    cases e
    rfl
  | _, d :: ds, ns, .cons h r, e => by
    cases d with
    | int i =>
      cases h
      unfold Rf.intsD at e
      cases q : Rf.intsD ds with
      | none => rw [q] at e; cases e
      | some ms =>
        rw [q] at e
        cases e
        rw [Rps.intsD r q]
        rfl
    | _ => cases e
theorem Rps.boolsD : ∀ {vs : List V} {ds : List D} {ns : List Bool}, Rps K FA H vs ds → boolsD ds = some ns → vs = ns.map V.bl
  | _, _, _, .nil, e => by
    cases e
    rfl
  | _, d :: ds, ns, .cons h r, e => by
    cases d with
    | bl i =>
      cases h
      unfold Rf.boolsD at e
      cases q : Rf.boolsD ds with
      | none => rw [q] at e; cases e
      | some ms =>
        rw [q] at e
        cases e
        rw [Rps.boolsD r q]
        rfl
    | _ => cases e
end

/-! ### the library's data -/
mutual
def py : D → PyData
  | .non => .none
  | .bl b => .bool b
  | .int i => .int i
  | .str s => .str ⟨s.toArray⟩
  | .tup ds => .tuple (pys ds)
  | .lst ds => .list (pys ds)
  | .fn _ => .none
  | .scr _ => .none
  | .dic _ => .none
def pys : List D → List PyData
  | [] => []
  | d :: ds => py d :: pys ds
end
theorem pys_map : ∀ ds : List D, pys ds = ds.map py
  | [] => rfl
  | d :: ds => by rw [pys, pys_map ds]; rfl
mutual
theorem Rp.dp {K : PySem.W.Frag} {FA : Nat → Option Addr} {H : Hp} : ∀ {v : V} {d : D}, Rp K FA H v d → pln d = true → Dp K H v (py d)
  | _, _, .non, _ => .non
  | _, _, .bl b, _ => .bl b
  | _, _, .int i, _ => .int i
  | _, _, .str x h, _ => .str _
  | _, _, .tup h r, p => .tup h (Rps.dp r p)
  | _, _, .lst h r, p => .lst (.inl (.inl h)) (Rps.dp r p)
  | _, _, .scr h r, p => by cases p
  | _, _, .fn f h, p => by cases p
theorem Rps.dp {K : PySem.W.Frag} {FA : Nat → Option Addr} {H : Hp} : ∀ {vs : List V} {ds : List D}, Rps K FA H vs ds → plns ds = true → DpAll K H vs (pys ds)
  | _, _, .nil, _ => .nil
  | _, _, .cons h r, p => by
    rw [plns, Bool.and_eq_true] at p
    exact .cons (Rp.dp h p.1) (Rps.dp r p.2)
end
mutual
theorem Rp.lay {K : PySem.W.Frag} {FA : Nat → Option Addr} {H : Hp} : ∀ {v : V} {d : D}, Rp K FA H v d → pln d = true → (py d).canLay0 = true
  | _, _, .non, _ => rfl
  | _, _, .bl b, _ => rfl
  | _, _, .int i, _ => rfl
  | _, _, .str x h, _ => by
    show PyData.strOk _ = true
    unfold PyData.strOk
    simp only [List.all_toArray, List.all_eq_true, decide_eq_true_eq]
    exact h
  | _, _, .tup h r, p => by
    rw [py, PyData.canLay0]
    exact Rps.lay r p
  | _, _, .lst h r, p => by
    rw [py, PyData.canLay0]
    exact Rps.lay r p
  | _, _, .scr h r, p => by cases p
  | _, _, .fn f h, p => by cases p
theorem Rps.lay {K : PySem.W.Frag} {FA : Nat → Option Addr} {H : Hp} : ∀ {vs : List V} {ds : List D}, Rps K FA H vs ds → plns ds = true → PyData.canLayAll0 (pys ds) = true
  | _, _, .nil, _ => by rw [pys, PyData.canLayAll0]
  | _, _, .cons h r, p => by
    rw [plns, Bool.and_eq_true] at p
    rw [pys, PyData.canLayAll0, Rp.lay h p.1, Rps.lay r p.2]
    rfl
end
mutual
theorem dep_py : ∀ d : D, (py d).depth = dep d
  | .non => rfl
  | .bl b => rfl
  | .int i => rfl
  | .str x => rfl
  | .tup ds => by rw [py, PyData.depth, dep, deps_pys ds]
  | .lst ds => by rw [py, PyData.depth, dep, deps_pys ds]
  | .fn _ => rfl
  | .scr _ => rfl
  | .dic _ => rfl
theorem deps_pys : ∀ ds : List D, PyData.depthAll (pys ds) = deps ds
  | [] => rfl
  | d :: ds => by rw [pys, PyData.depthAll, deps, dep_py d, deps_pys ds]
end
theorem str_beq (x y : List Nat) : ((⟨x.toArray⟩ : Str) == ⟨y.toArray⟩) = (x == y) := by
  by_cases h : x = y
  · subst h
    simp
  · rw [beq_eq_false_iff_ne.mpr h, beq_eq_false_iff_ne]
    intro e
    apply h
    injection e with e
    simpa using congrArg Array.toList e
mutual
theorem eqv_py : ∀ a b : D, pln a = true → pln b = true → PyData.eqv (py a) (py b) = peq a b
  | .non, b, _, q => by cases b <;> first | rfl | cases q
  | .bl x, b, _, q => by cases b <;> first | rfl | cases q
  | .int i, b, _, q => by cases b <;> first | rfl | cases q
  | .str x, b, _, q => by
    cases b with
    | str y =>
      rw [py, py, PyData.eqv, peq, str_beq]
    | _ => first | rfl | cases q
  | .tup xs, b, p, q => by
    cases b with
    | tup ys =>
      rw [py, py, PyData.eqv, peq]
      exact eqv_pys xs ys p q
    | _ => first | rfl | cases q
  | .lst xs, b, p, q => by
    cases b with
    | lst ys =>
      rw [py, py, PyData.eqv, peq]
      exact eqv_pys xs ys p q
    | _ => first | rfl | cases q
  | .fn _, _, p, _ => by cases p
  | .scr _, _, p, _ => by cases p
  | .dic _, _, p, _ => by cases p
theorem eqv_pys : ∀ xs ys : List D, plns xs = true → plns ys = true → PyData.eqvAll (pys xs) (pys ys) = peqs xs ys
  | [], [], _, _ => by rw [pys, PyData.eqvAll, peqs]
  | [], _ :: _, _, _ => by rw [pys, pys, PyData.eqvAll, peqs] <;> simp
  | _ :: _, [], _, _ => by rw [pys, pys, PyData.eqvAll, peqs] <;> simp
  | x :: xs, y :: ys, p, q => by
    rw [plns, Bool.and_eq_true] at p q
    rw [pys, pys, PyData.eqvAll, peqs, eqv_py x y p.1 q.1, eqv_pys xs ys p.2 q.2]
end

/-! ### slots and states -/
section
variable (K : PySem.W.Frag) (FA : Nat → Option Addr)
def RS (F H : Hp) (x : V) : Sl → Prop
  | .v d => Rp K FA F x d
  | .o (.lst ds) => ∃ a xs, x = .ref a ∧ F a = none ∧ H a = some (.lst xs) ∧ Rps K FA F xs ds
  | .o _ => False
def owns (σ : St) (ρ : Env) (i : Nat) (a : Addr) : Prop := σ[i]? = some (some (.ref a)) ∧ ∃ d, ρ[i]? = some (some (.o d))
/-- the frame's state: F: what changes no more; Z: what others may change, and this frame not -/
structure SR (Z : Addr → Prop) (σ : St) (H : Hp) (ρ : Env) (F : Hp) : Prop where
  sub : Sub F H
  zf : ∀ a, Z a → F a = none ∧ ∃ o, H a = some o
  len : ρ.length = σ.length
  slot : ∀ (i : Nat) (s : Sl), ρ[i]? = some (some s) → ∃ x, σ[i]? = some (some x) ∧ RS K FA F H x s
  oz : ∀ (i : Nat) (a : Addr), owns σ ρ i a → ¬ Z a
  dis : ∀ (i j : Nat) (a : Addr), owns σ ρ i a → owns σ ρ j a → i = j
end
structure Ext (Z : Addr → Prop) (F H F' H' : Hp) : Prop where
  sub : Sub F F'
  keep : ∀ a, Z a → H' a = H a
theorem Ext.refl {Z : Addr → Prop} {F H : Hp} : Ext Z F H F H := ⟨.refl, fun _ _ => rfl⟩
theorem Ext.trans {Z : Addr → Prop} {F H F1 H1 F2 H2 : Hp} (a : Ext Z F H F1 H1) (b : Ext Z F1 H1 F2 H2) : Ext Z F H F2 H2 :=
  ⟨a.sub.trans b.sub, fun x z => (b.keep x z).trans (a.keep x z)⟩
section
variable {K : PySem.W.Frag} {FA : Nat → Option Addr} {Z : Addr → Prop} {σ : St} {H F : Hp} {ρ : Env}

theorem gt_some {i : Nat} {s : Sl} : gt ρ i = some s ↔ ρ[i]? = some (some s) := by
  unfold gt
  constructor
  · intro h
    split at h
    · cases h
      assumption
    · cases h
  · intro h
    rw [h]
theorem RS.mono {F' H' : Hp} {x : V} {s : Sl} (r : RS K FA F H x s) (f : Sub F F') (h : ∀ a, x = .ref a → (∃ d, s = .o d) → F' a = none ∧ H' a = H a) : RS K FA F' H' x s := by
  cases s with
  | v d => exact Rp.mono f r
  | o d =>
    cases d with
    | lst ds =>
      obtain ⟨a, xs, e, n, ha, q⟩ := r
      obtain ⟨h1, h2⟩ := h a e ⟨_, rfl⟩
      exact ⟨a, xs, e, h1, h2.trans ha, q.mono f⟩
    | _ => exact r.elim
/-- the heap grows at p, what is frozen too -/
theorem SR.grow {p : Addr} {o : HO} (S : SR K FA Z σ H ρ F) (n : H p = none) : SR K FA Z σ (upd H p o) ρ (upd F p o) ∧ Ext Z F H (upd F p o) (upd H p o) := by
  have nF : F p = none := by
    cases e : F p with
    | none => rfl
    | some u => rw [S.sub p u e] at n; cases n
  have s1 : Sub F (upd F p o) := Sub.upd .refl nF
  have ne : ∀ a, (∃ u, H a = some u) → a ≠ p := fun a ⟨u, e⟩ => ne_of_none e n
  refine ⟨⟨S.sub.upd2, fun a z => ?_, S.len, fun i s e => ?_, S.oz, S.dis⟩, s1, fun a z => ?_⟩
  · obtain ⟨z1, z2⟩ := S.zf a z
    rw [upd_ne (ne a z2), upd_ne (ne a z2)]
    exact ⟨z1, z2⟩
  · obtain ⟨x, e1, r⟩ := S.slot i s e
    refine ⟨x, e1, r.mono s1 fun a ex ⟨d, es⟩ => ?_⟩
    subst es
    cases d with
    | lst ds =>
      obtain ⟨a', xs, ex', n', ha, q⟩ := r
      have ea : a' = a := V.ref.inj (ex'.symm.trans ex)
      subst ea
      rw [upd_ne (ne a' ⟨_, ha⟩), upd_ne (ne a' ⟨_, ha⟩)]
      exact ⟨n', rfl⟩
    | _ => exact r.elim
  · rw [upd_ne (ne a (S.zf a z).2)]
/-- a new container that is not frozen -/
theorem SR.grow1 {p : Addr} {o : HO} (S : SR K FA Z σ H ρ F) (n : H p = none) : SR K FA Z σ (upd H p o) ρ F ∧ Ext Z F H F (upd H p o) ∧ F p = none ∧ ¬ Z p ∧ ∀ i, ¬ owns σ ρ i p := by
  have nF : F p = none := by
    cases e : F p with
    | none => rfl
    | some u => rw [S.sub p u e] at n; cases n
  have ne : ∀ a, (∃ u, H a = some u) → a ≠ p := fun a ⟨u, e⟩ => ne_of_none e n
  have no : ∀ i, ¬ owns σ ρ i p := fun i ⟨e1, d, e2⟩ => by
    obtain ⟨x, e3, r⟩ := S.slot i _ e2
    rw [e1] at e3
    cases e3
    cases d with
    | lst ds =>
      obtain ⟨a', xs, ex', n', ha, q⟩ := r
      cases ex'
      rw [ha] at n
      cases n
    | _ => exact r.elim
  refine ⟨⟨S.sub.upd n, fun a z => ?_, S.len, fun i s e => ?_, S.oz, S.dis⟩, ⟨.refl, fun a z => by rw [upd_ne (ne a (S.zf a z).2)]⟩, nF, fun z => ?_, no⟩
  · obtain ⟨z1, z2⟩ := S.zf a z
    rw [upd_ne (ne a z2)]
    exact ⟨z1, z2⟩
  · obtain ⟨x, e1, r⟩ := S.slot i s e
    refine ⟨x, e1, r.mono .refl fun a ex ⟨d, es⟩ => ?_⟩
    subst es
    cases d with
    | lst ds =>
      obtain ⟨a', xs, ex', n', ha, q⟩ := r
      have ea : a' = a := V.ref.inj (ex'.symm.trans ex)
      subst ea
      rw [upd_ne (ne a' ⟨_, ha⟩)]
      exact ⟨n', rfl⟩
    | _ => exact r.elim
  · obtain ⟨_, o', e⟩ := S.zf p z
    rw [n] at e
    cases e
/-- a container that no slot holds is frozen -/
theorem SR.freeze {p : Addr} {o : HO} (S : SR K FA Z σ H ρ F) (nF : F p = none) (h : H p = some o) (nz : ¬ Z p) (no : ∀ i, ¬ owns σ ρ i p) : SR K FA Z σ H ρ (upd F p o) ∧ Ext Z F H (upd F p o) H := by
  have s1 : Sub F (upd F p o) := Sub.upd .refl nF
  refine ⟨⟨fun a u e => ?_, fun a z => ?_, S.len, fun i s e => ?_, S.oz, S.dis⟩, s1, fun _ _ => rfl⟩
  · unfold upd at e
    split at e
    · rename_i q
      cases e
      rw [q]
      exact h
    · exact S.sub a u e
  · have q : a ≠ p := fun e => nz (e ▸ z)
    rw [upd_ne q]
    exact S.zf a z
  · obtain ⟨x, e1, r⟩ := S.slot i s e
    refine ⟨x, e1, r.mono s1 fun a ex ⟨d, es⟩ => ?_⟩
    subst es ex
    have q : a ≠ p := fun q => no i ⟨by rw [e1, q], d, e⟩
    cases d with
    | lst ds =>
      obtain ⟨a', xs, ex', n', ha, q'⟩ := r
      cases ex'
      rw [upd_ne q]
      exact ⟨n', rfl⟩
    | _ => exact r.elim
/-- a slot forgotten -/
theorem SR.forget (S : SR K FA Z σ H ρ F) (i : Nat) : SR K FA Z σ H (ρ.set i none) F := by
  have sub : ∀ {j : Nat} {s : Sl}, (ρ.set i none)[j]? = some (some s) → j ≠ i ∧ ρ[j]? = some (some s) := fun {j s} e => by
    by_cases h : i = j
    · subst h
      rw [List.getElem?_set] at e
      simp at e
    · rw [List.getElem?_set_ne h] at e
      exact ⟨fun q => h q.symm, e⟩
  refine ⟨S.sub, S.zf, by rw [List.length_set]; exact S.len, fun j s e => S.slot j s (sub e).2, fun j a ⟨e1, d, e2⟩ => S.oz j a ⟨e1, d, (sub e2).2⟩, fun j k a ⟨e1, d, e2⟩ ⟨e3, d', e4⟩ => S.dis j k a ⟨e1, d, (sub e2).2⟩ ⟨e3, d', (sub e4).2⟩⟩
/-- a result: its value, and that a container is nobody else's -/
def RX (K : PySem.W.Frag) (FA : Nat → Option Addr) (Z : Addr → Prop) (σ : St) (ρ : Env) (F H : Hp) (x : V) (s : Sl) : Prop :=
  RS K FA F H x s ∧ ∀ a, x = .ref a → (∃ d, s = .o d) → ¬ Z a ∧ ∀ i, ¬ owns σ ρ i a
theorem RX.v {x : V} {d : D} (r : Rp K FA F x d) : RX K FA Z σ ρ F H x (.v d) := ⟨r, fun _ _ ⟨_, e⟩ => by cases e⟩
theorem RX.toV {x : V} {s : Sl} (S : SR K FA Z σ H ρ F) (r : RX K FA Z σ ρ F H x s) : ∃ F', Ext Z F H F' H ∧ SR K FA Z σ H ρ F' ∧ Rp K FA F' x s.d := by
  cases s with
  | v d => exact ⟨F, .refl, S, r.1⟩
  | o d =>
    cases d with
    | lst ds =>
      obtain ⟨⟨a, xs, rfl, n, ha, q⟩, u⟩ := r
      obtain ⟨u1, u2⟩ := u a rfl ⟨_, rfl⟩
      obtain ⟨S', E'⟩ := S.freeze n ha u1 u2
      exact ⟨_, E', S', .lst upd_same (q.mono E'.sub)⟩
    | _ => exact r.1.elim
theorem own_lst {x : V} {d : D} (r : RS K FA F H x (.o d)) : ∃ a xs ds, x = .ref a ∧ d = .lst ds ∧ F a = none ∧ H a = some (.lst xs) ∧ Rps K FA F xs ds := by
  cases d with
  | lst ds =>
    obtain ⟨a, xs, e, n, ha, q⟩ := r
    exact ⟨a, xs, ds, e, rfl, n, ha, q⟩
  | _ => exact r.elim
/-- a result goes into a slot -/
theorem SR.store {x : V} {s : Sl} {i : Nat} (S : SR K FA Z σ H ρ F) (r : RX K FA Z σ ρ F H x s) : SR K FA Z (σ.set i (some x)) H (ρ.set i (some s)) F := by
  have key : ∀ {j : Nat} {s' : Sl}, (ρ.set i (some s))[j]? = some (some s') → (j = i ∧ s' = s ∧ i < ρ.length) ∨ (j ≠ i ∧ ρ[j]? = some (some s')) := fun {j s'} e => by
    by_cases h : i = j
    · subst h
      by_cases hl : i < ρ.length
      · rw [List.getElem?_set_self hl] at e
        cases e
        exact .inl ⟨rfl, rfl, hl⟩
      · rw [List.getElem?_eq_none (by rw [List.length_set]; omega)] at e
        cases e
    · rw [List.getElem?_set_ne h] at e
      exact .inr ⟨fun q => h q.symm, e⟩
  have at_i : i < ρ.length → (σ.set i (some x))[i]? = some (some x) := fun hl => List.getElem?_set_self (by rw [← S.len]; exact hl)
  have at_j : ∀ {j : Nat}, j ≠ i → (σ.set i (some x))[j]? = σ[j]? := fun {j} h => List.getElem?_set_ne (Ne.symm h)
  have ow : ∀ {j : Nat} {a : Addr}, owns (σ.set i (some x)) (ρ.set i (some s)) j a → (j = i ∧ x = .ref a ∧ ∃ d, s = .o d) ∨ (j ≠ i ∧ owns σ ρ j a) := fun {j a} ⟨e1, d, e2⟩ => by
    rcases key e2 with ⟨rfl, es, hl⟩ | ⟨h, e⟩
    · rw [at_i hl] at e1
      cases e1
      exact .inl ⟨rfl, rfl, d, es.symm⟩
    · rw [at_j h] at e1
      exact .inr ⟨h, e1, d, e⟩
  refine ⟨S.sub, S.zf, by rw [List.length_set, List.length_set]; exact S.len, fun j s' e => ?_, fun j a q => ?_, fun j k a q1 q2 => ?_⟩
  · rcases key e with ⟨rfl, rfl, hl⟩ | ⟨h, e⟩
    · exact ⟨x, at_i hl, r.1⟩
    · rw [at_j h]
      exact S.slot j s' e
  · rcases ow q with ⟨_, ex, es⟩ | ⟨_, q⟩
    · exact (r.2 a ex es).1
    · exact S.oz j a q
  · rcases ow q1 with ⟨e1, ex, es⟩ | ⟨h1, p1⟩
    · rcases ow q2 with ⟨e2, _⟩ | ⟨_, p2⟩
      · rw [e1, e2]
      · exact absurd p2 ((r.2 a ex es).2 k)
    · rcases ow q2 with ⟨e2, ex, es⟩ | ⟨_, p2⟩
      · exact absurd p1 ((r.2 a ex es).2 j)
      · exact S.dis j k a p1 p2
/-- a slot's container is frozen -/
theorem SR.fz (S : SR K FA Z σ H ρ F) (i : Nat) : ∃ F', Ext Z F H F' H ∧ SR K FA Z σ H (fz ρ i) F' ∧ ∀ s x, gt ρ i = some s → σ[i]? = some (some x) → Rp K FA F' x s.d := by
  unfold Rf.fz
  cases e : gt ρ i with
  | none => exact ⟨F, .refl, S, fun s x h => by cases h⟩
  | some s =>
    have e' := gt_some.mp e
    obtain ⟨x, ex, r⟩ := S.slot i s e'
    cases s with
    | v d =>
      refine ⟨F, .refl, S, fun s x' h hx => ?_⟩
      cases h
      rw [ex] at hx
      cases hx
      exact r
    | o d =>
      obtain ⟨a, xs, ds, rfl, rfl, n, ha, q⟩ := own_lst r
      have S1 := S.forget i
      have nz : ¬ Z a := S.oz i a ⟨ex, _, e'⟩
      have no : ∀ j, ¬ owns σ (ρ.set i none) j a := fun j ⟨q1, d, q2⟩ => by
        by_cases h : i = j
        · subst h
          rw [List.getElem?_set] at q2
          simp at q2
        · rw [List.getElem?_set_ne h] at q2
          exact h (S.dis i j a ⟨ex, _, e'⟩ ⟨q1, d, q2⟩)
      obtain ⟨S2, E2⟩ := S1.freeze n ha nz no
      have rp : Rp K FA (upd F a (.lst xs)) (.ref a) (.lst ds) := .lst upd_same (q.mono E2.sub)
      have S3 := S2.store (i := i) (RX.v (Z := Z) (σ := σ) (ρ := ρ.set i none) (H := H) rp)
      have es : σ.set i (some (V.ref a)) = σ := by
        have hl : i < σ.length := by
          rcases Nat.lt_or_ge i σ.length with h | h
          · exact h
          · rw [List.getElem?_eq_none h] at ex
            cases ex
        apply List.ext_getElem?
        intro j
        by_cases h : i = j
        · subst h
          rw [List.getElem?_set_self hl, ex]
        · rw [List.getElem?_set_ne h]
      rw [es, List.set_set] at S3
      refine ⟨_, E2, S3, fun s x' h hx => ?_⟩
      cases h
      rw [ex] at hx
      cases hx
      exact rp
end
end Rf

set_option maxHeartbeats 1000000
/-! Rf2b: the order of data. -/
namespace Rf
open PySem PySem.Spec L2
open PySem.W (alike alikeAll dataLt AlikeAll minD maxD dataLe sortLe TotalLe sameRank)
/-! ### the order -/
mutual
theorem alk_py : ∀ a b : D, pln a = true → pln b = true → alike (py a) (py b) = alk a b
  | .non, b, _, q => by cases b <;> first | rfl | cases q
  | .bl x, b, _, q => by cases b <;> first | rfl | cases q
  | .int i, b, _, q => by cases b <;> first | rfl | cases q
  | .str x, b, _, q => by cases b <;> first | rfl | cases q
  | .tup xs, b, p, q => by
    cases b with
    | tup ys =>
      rw [py, py, alike, alk]
      exact alks_py xs ys p q
    | _ => first | rfl | cases q
  | .lst xs, b, p, q => by
    cases b with
    | lst ys =>
      rw [py, py, alike, alk]
      exact alks_py xs ys p q
    | _ => first | rfl | cases q
  | .fn _, b, p, q => by cases p
  | .scr _, b, p, q => by cases p
  | .dic _, b, p, q => by cases p
theorem alks_py : ∀ xs ys : List D, plns xs = true → plns ys = true → alikeAll (pys xs) (pys ys) = alks xs ys
  | [], ys, _, _ => by cases ys <;> rw [pys] <;> simp [alikeAll, alks]
  | x :: xs, [], _, _ => by rw [pys, pys]; simp [alikeAll, alks]
  | x :: xs, y :: ys, p, q => by
    rw [plns, Bool.and_eq_true] at p q
    rw [pys, pys, alikeAll, alks, alk_py x y p.1 q.1, alks_py xs ys p.2 q.2]
end
mutual
theorem plt_py : ∀ a b : D, pln a = true → pln b = true → alk a b = true → dataLt (py a) (py b) = plt a b
  | .non, b, _, q, h => by
    cases b <;> first | cases h | skip
    exact PyProof.Rows.lex_irrefl _
  | .bl x, b, _, q, h => by
    cases b <;> first | cases h | skip
    rw [py, py, PySem.W.dataLt_bool, plt]
    rename_i y
    cases x <;> cases y <;> rfl
  | .int i, b, _, q, h => by
    cases b <;> first | cases h | skip
    rw [py, py, PySem.W.dataLt_int, plt]
  | .str x, b, _, q, h => by
    cases b <;> first | cases h | skip
    rw [py, py, PySem.W.dataLt_str, plt]
    rfl
  | .tup xs, b, p, q, h => by
    cases b <;> first | cases h | skip
    rw [py, py, PySem.W.dataLt_tuple, plt]
    exact plts_py xs _ p q h
  | .lst xs, b, p, q, h => by
    cases b <;> first | cases h | skip
    rw [py, py, PySem.W.dataLt_list, plt]
    exact plts_py xs _ p q h
  | .fn _, b, p, q, h => by cases p
  | .scr _, b, p, q, h => by cases p
  | .dic _, b, p, q, h => by cases p
theorem plts_py : ∀ xs ys : List D, plns xs = true → plns ys = true → alks xs ys = true → PyProof.Rows.lexLt PyProof.Rows.itemOrd (PySem.W.keyToksAll (pys xs)) (PySem.W.keyToksAll (pys ys)) = plts xs ys
  | [], [], _, _, _ => PyProof.Rows.lex_irrefl _
  | [], y :: ys, _, _, _ => by
    rw [pys, pys, plts]
    kernel_rfl
  | x :: xs, [], _, _, _ => by
    rw [pys, pys, plts]
    kernel_rfl
  | x :: xs, y :: ys, p, q, h => by
    rw [plns, Bool.and_eq_true] at p q
    rw [alks, Bool.and_eq_true] at h
    rw [pys, pys, PySem.W.dataLt_cons (by rw [alk_py x y p.1 q.1]; exact h.1), eqv_py x y p.1 q.1, plts_py xs ys p.2 q.2 h.2, plts]
    by_cases e : peq x y = true
    · rw [if_pos e, if_pos e]
    · rw [if_neg e, if_neg e]
      exact plt_py x y p.1 q.1 h.1
end
mutual
/-- plain data are told apart by the library -/
theorem py_inj : ∀ a b : D, pln a = true → pln b = true → py a = py b → a = b
  | .non, b, _, q, h => by cases b <;> simp_all [py, pln]
  | .bl x, b, _, q, h => by cases b <;> simp_all [py, pln]
  | .int i, b, _, q, h => by cases b <;> simp_all [py, pln]
  | .str x, b, _, q, h => by cases b <;> simp_all [py, pln]
  | .tup xs, b, p, q, h => by
    cases b with
    | tup ys =>
      simp only [py, PyData.tuple.injEq] at h
      rw [pys_inj xs ys p q h]
    | _ => simp_all [py, pln]
  | .lst xs, b, p, q, h => by
    cases b with
    | lst ys =>
      simp only [py, PyData.list.injEq] at h
      rw [pys_inj xs ys p q h]
    | _ => simp_all [py, pln]
  | .fn _, b, p, q, h => by cases p
  | .scr _, b, p, q, h => by cases p
  | .dic _, b, p, q, h => by cases p
theorem pys_inj : ∀ xs ys : List D, plns xs = true → plns ys = true → pys xs = pys ys → xs = ys
  | [], [], _, _, _ => rfl
  | [], y :: ys, _, _, h => by simp [pys] at h
  | x :: xs, [], _, _, h => by simp [pys] at h
  | x :: xs, y :: ys, p, q, h => by
    rw [plns, Bool.and_eq_true] at p q
    simp only [pys, List.cons.injEq] at h
    rw [py_inj x y p.1 q.1 h.1, pys_inj xs ys p.2 q.2 h.2]
end
end Rf

set_option maxHeartbeats 1000000
/-! Rf3: what is wanted behind a piece of code; operators over data. -/
namespace Rf
open PySem PySem.Spec L2

section
variable (K : PySem.W.Frag) (FA CA : Nat → Option Addr) (W : WX)
def WEx (e : Xc) (σ : St) (H : Hp) : Prop := ∀ C, CA e.c = some C → e.a = none → W (.ref C) none σ H
def Po {α : Type} (Z : Addr → Prop) (σ : St) (H F : Hp) (r : R α) (k : α → Hp → Env → Hp → Prop) : Prop :=
  match r with
  | .ok a ρ' => ∀ H' F', Ext Z F H F' H' → SR K FA Z σ H' ρ' F' → k a H' ρ' F'
  | .ex e ρ' => ∀ H' F', Ext Z F H F' H' → SR K FA Z σ H' ρ' F' → WEx CA W e σ H'
  | .bad => False
end
section
variable {K : PySem.W.Frag} {FA CA : Nat → Option Addr} {W : WX} {Z : Addr → Prop} {σ : St} {H F H1 F1 : Hp} {ρ ρ1 : Env} {α β : Type}
theorem Po.shift {r : R α} {k : α → Hp → Env → Hp → Prop} (p : Po K FA CA W Z σ H F r k) (e : Ext Z F H F1 H1) : Po K FA CA W Z σ H1 F1 r k := by
  cases r with
  | ok a ρ' => exact fun H' F' e' S => p H' F' (e.trans e') S
  | ex x ρ' => exact fun H' F' e' S => p H' F' (e.trans e') S
  | bad => exact p
theorem Po.bind {r : R α} {f : α → Env → R β} {k : β → Hp → Env → Hp → Prop} (p : Po K FA CA W Z σ H F (r.bind f) k) : Po K FA CA W Z σ H F r fun a H1 ρ1 F1 => Po K FA CA W Z σ H1 F1 (f a ρ1) k := by
  cases r with
  | ok a ρ' => exact fun H' F' e S => Po.shift p e
  | ex x ρ' => exact p
  | bad => exact p
theorem Po.imp {r : R α} {k k' : α → Hp → Env → Hp → Prop} (p : Po K FA CA W Z σ H F r k) (h : ∀ a H' ρ' F', Ext Z F H F' H' → SR K FA Z σ H' ρ' F' → k a H' ρ' F' → k' a H' ρ' F') : Po K FA CA W Z σ H F r k' := by
  cases r with
  | ok a ρ' => exact fun H' F' e S => h _ _ _ _ e S (p H' F' e S)
  | ex x ρ' => exact p
  | bad => exact p
theorem Po.here {a : α} {k : α → Hp → Env → Hp → Prop} (p : Po K FA CA W Z σ H F (.ok a ρ) k) (S : SR K FA Z σ H ρ F) : k a H ρ F := p H F .refl S
theorem Po.ofO {o : Option α} {k : α → Hp → Env → Hp → Prop} (p : Po K FA CA W Z σ H F (ofO o ρ) k) : ∃ a, o = some a ∧ Po K FA CA W Z σ H F (.ok a ρ) k := by
  cases o with
  | none => exact p.elim
  | some a => exact ⟨a, rfl, p⟩
end

/-! ### readings -/
section
variable (K : PySem.W.Frag) (FA CA : Nat → Option Addr) (W : WX)
def RdE (t : TE) (c : Env → R Sl) : Prop := ∀ Z σ H ρ F (Q : VK), SR K FA Z σ H ρ F → Po K FA CA W Z σ H F (c ρ) (fun s H' ρ' F' => ∀ x, RX K FA Z σ ρ' F' H' x s → Q x H') → t σ H Q
def RdV (t : TE) (c : Env → R Sl) : Prop := ∀ Z σ H ρ F (Q : VK), SR K FA Z σ H ρ F → Po K FA CA W Z σ H F (c ρ) (fun s H' ρ' F' => ∀ x, Rp K FA F' x s.d → Q x H') → t σ H Q
/-- an operand: a slot that is read later, or data -/
def RO (σ : St) (F : Hp) (q : Nat ⊕ D) (x : V) : Prop :=
  match q with
  | .inl i => σ[i]? = some (some x)
  | .inr d => Rp K FA F x d
def RdP (t : TE) (c : Env → R (Nat ⊕ D)) : Prop := ∀ Z σ H ρ F (Q : VK), SR K FA Z σ H ρ F → Po K FA CA W Z σ H F (c ρ) (fun q H' ρ' F' => ∀ x, RO K FA σ F' q x → Q x H') → t σ H Q
def RdT (t : TT) (c : Env → R Bool) : Prop := ∀ Z σ H ρ F (Q : Bool → Hp → Prop), SR K FA Z σ H ρ F → Po K FA CA W Z σ H F (c ρ) (fun b H' _ _ => Q b H') → t σ H Q
def RdEs (t : TA) (c : Env → R (List D)) : Prop := ∀ Z σ H ρ F (Q : List V → Hp → Prop), SR K FA Z σ H ρ F → Po K FA CA W Z σ H F (c ρ) (fun ds H' ρ' F' => ∀ xs, Rps K FA F' xs ds → Q xs H') → t σ H Q
inductive ROs (σ : St) (F : Hp) : List (Nat ⊕ D) → List V → Prop
  | nil : ROs σ F [] []
  | cons {q : Nat ⊕ D} {qs : List (Nat ⊕ D)} {x : V} {xs : List V} : RO K FA σ F q x → ROs σ F qs xs → ROs σ F (q :: qs) (x :: xs)
def RdA (t : TA) (c : Env → R (List (Nat ⊕ D))) : Prop := ∀ Z σ H ρ F (Q : List V → Hp → Prop), SR K FA Z σ H ρ F → Po K FA CA W Z σ H F (c ρ) (fun qs H' ρ' F' => ∀ xs, ROs K FA σ F' qs xs → Q xs H') → t σ H Q
/-- an operand's value when it is used -/
def RQ (F H : Hp) (x : V) (d : D) : Prop := Rp K FA F x d ∨ ∃ a xs ds, d = .lst ds ∧ x = .ref a ∧ H a = some (.lst xs) ∧ Rps K FA F xs ds
end
section
variable {K : PySem.W.Frag} {FA CA : Nat → Option Addr} {W : WX} {Z : Addr → Prop} {σ : St} {H F H1 F1 : Hp} {ρ ρ1 : Env}
theorem Po.imp2 {α : Type} {r : R α} {k k' : α → Hp → Env → Hp → Prop} (p : Po K FA CA W Z σ H F r k)
    (h : ∀ a ρ', (∀ H' F', Ext Z F H F' H' → SR K FA Z σ H' ρ' F' → k a H' ρ' F') → ∀ H' F', Ext Z F H F' H' → SR K FA Z σ H' ρ' F' → k' a H' ρ' F') : Po K FA CA W Z σ H F r k' := by
  cases r with
  | ok a ρ' => exact h a ρ' p
  | ex x ρ' => exact p
  | bad => exact p
theorem RdE.toV {t : TE} {c : Env → R Sl} (h : RdE K FA CA W t c) : RdV K FA CA W t c := fun Z σ H ρ F Q S p =>
  h Z σ H ρ F Q S (p.imp2 fun s ρ' k H' F' e S' x r => by
    obtain ⟨F2, e2, S2, r2⟩ := r.toV S'
    exact k H' F2 (e.trans e2) S2 x r2)
theorem RdE.toP {t : TE} {c : Env → R Sl} (h : RdE K FA CA W t c) : RdP K FA CA W t fun ρ => (c ρ).bind fun x ρ => .ok (.inr x.d) ρ := fun Z σ H ρ F Q S p =>
  h.toV Z σ H ρ F Q S (p.bind.imp fun s H' ρ' F' e S' k => k.here S')
theorem rdp_pk {i : Nat} : RdP K FA CA W (tVar i) fun ρ => if (gt ρ i).isSome then .ok (.inl i) ρ else .bad := fun Z σ H ρ F Q S p => by
  dsimp only at p
  cases g : gt ρ i with
  | none =>
    rw [g] at p
    exact p.elim
  | some s =>
    rw [g] at p
    obtain ⟨x, e, r⟩ := S.slot i s (gt_some.mp g)
    simp only [Option.isSome_some, if_true] at p
    exact ⟨x, e, p.here S x e⟩
theorem RO.mono {q : Nat ⊕ D} {x : V} (r : RO K FA σ F q x) (s : Sub F F1) : RO K FA σ F1 q x := by
  cases q with
  | inl i => exact r
  | inr d => exact Rp.mono s r
theorem RO.rs {q : Nat ⊕ D} {x : V} {d : D} (S : SR K FA Z σ H ρ F) (r : RO K FA σ F q x) (e : rs ρ q = some d) : RQ K FA F H x d := by
  cases q with
  | inl i =>
    have r : σ[i]? = some (some x) := r
    have e : (gt ρ i).map Sl.d = some d := e
    cases g : gt ρ i with
    | none => rw [g] at e; cases e
    | some s =>
      rw [g] at e
      cases e
      obtain ⟨x', e1, h⟩ := S.slot i s (gt_some.mp g)
      rw [r] at e1
      cases e1
      cases s with
      | v d => exact .inl h
      | o d =>
        obtain ⟨a, xs, ds, rfl, rfl, _, h1, h2⟩ := own_lst h
        exact .inr ⟨a, xs, ds, rfl, rfl, h1, h2⟩
  | inr d' =>
    cases e
    exact .inl r
end
section
variable {K : PySem.W.Frag} {FA CA : Nat → Option Addr} {W : WX} {Z : Addr → Prop} {σ : St} {H F H1 F1 : Hp} {ρ ρ1 : Env} {x : V}
theorem RQ.non (r : RQ K FA F H x .non) : x = .non := by
  rcases r with r | ⟨_, _, _, e, _⟩
  · cases r; rfl
  · cases e
theorem RQ.bl {b : Bool} (r : RQ K FA F H x (.bl b)) : x = .bl b := by
  rcases r with r | ⟨_, _, _, e, _⟩
  · cases r; rfl
  · cases e
theorem RQ.int {i : Int} (r : RQ K FA F H x (.int i)) : x = .int i := by
  rcases r with r | ⟨_, _, _, e, _⟩
  · cases r; rfl
  · cases e
theorem RQ.str {s : List Nat} (r : RQ K FA F H x (.str s)) : x = .str ⟨s.toArray⟩ ∧ ∀ c ∈ s, c < 1114112 := by
  rcases r with r | ⟨_, _, _, e, _⟩
  · cases r with | str _ h => exact ⟨rfl, h⟩
  · cases e
theorem RQ.tup {ds : List D} (S : Sub F H) (r : RQ K FA F H x (.tup ds)) : ∃ a xs, x = .ref a ∧ SqT K H a xs ∧ Rps K FA F xs ds := by
  rcases r with r | ⟨_, _, _, e, _⟩
  · cases r with | tup h q => exact ⟨_, _, rfl, S.sqT h, q⟩
  · cases e
theorem RQ.lst {ds : List D} (S : Sub F H) (r : RQ K FA F H x (.lst ds)) : ∃ a xs, x = .ref a ∧ H a = some (.lst xs) ∧ Rps K FA F xs ds := by
  rcases r with r | ⟨a, xs, ds', e, e2, h, q⟩
  · cases r with | lst h q => exact ⟨_, _, rfl, S _ _ h, q⟩
  · cases e
    exact ⟨a, xs, e2, h, q⟩
theorem RQ.scr {ds : List D} (S : Sub F H) (r : RQ K FA F H x (.scr ds)) : ∃ a xs, x = .ref a ∧ SqL K H a xs ∧ Rps K FA F xs ds := by
  rcases r with r | ⟨_, _, _, e, _⟩
  · cases r with | scr h q => exact ⟨_, _, rfl, S.sqL h, q⟩
  · cases e
theorem RQ.rp {d : D} (S : Sub F H) (r : RQ K FA F H x d) : Rp K FA H x d := by
  rcases r with r | ⟨a, xs, ds', rfl, rfl, h, q⟩
  · exact r.mono S
  · exact .lst h (q.mono S)
/-- a new tuple; a new list -/
theorem res_tup {xs : List V} {ds : List D} {Q : VK} (S : SR K FA Z σ H ρ F) (r : Rps K FA F xs ds) (q : ∀ x H' F', Ext Z F H F' H' → SR K FA Z σ H' ρ F' → RX K FA Z σ ρ F' H' x (.v (.tup ds)) → Q x H') :
    ∀ p, H p = none → Q (.ref p) (upd H p (.tup xs)) := fun p n => by
  obtain ⟨S', e⟩ := S.grow (o := .tup xs) n
  exact q _ _ _ e S' (.v (.tup (.inl (.inl upd_same)) (r.mono e.sub)))
theorem res_lst {xs : List V} {ds : List D} {Q : VK} (S : SR K FA Z σ H ρ F) (r : Rps K FA F xs ds) (q : ∀ x H' F', Ext Z F H F' H' → SR K FA Z σ H' ρ F' → RX K FA Z σ ρ F' H' x (.o (.lst ds)) → Q x H') :
    ∀ p, H p = none → Q (.ref p) (upd H p (.lst xs)) := fun p n => by
  obtain ⟨S', e, nF, nz, no⟩ := S.grow1 (o := .lst xs) n
  exact q _ _ _ e S' ⟨⟨p, xs, rfl, nF, upd_same, r⟩, fun a ea _ => by cases ea; exact ⟨nz, no⟩⟩
end

/-! ### operators -/
theorem mulOk_ok {i j : Int} (h : mulOk i j = true) : IntMulOk i j := by
  have b : ∀ x : Int, Builtin.Int.intBits x ≤ x.natAbs.log2 + 1 := fun x => by
    unfold Builtin.Int.intBits
    split <;> omega
  have sm : ∀ x : Int, x.natAbs < 18446744073709551616 → Builtin.Int.intBits x ≤ 64 := fun x hx => by
    refine Nat.le_trans (b x) ?_
    by_cases h0 : x.natAbs = 0
    · rw [h0]
      decide
    · have := (Nat.log2_lt (n := x.natAbs) (k := 64) h0).mpr (by simpa using hx)
      omega
  unfold mulOk at h
  simp only [Bool.or_eq_true, decide_eq_true_eq] at h
  rcases h with (h | h) | h
  · exact .of_left (sm i h)
  · exact .of_right (sm j h)
  · have h1 := b i
    have h2 := b j
    have e : bitsLine = 134217728 := by decide
    unfold IntMulOk
    intro z
    rw [Bool.and_eq_true] at z
    have z2 := z.2
    unfold Builtin.Int.intTooBig at z2
    have z3 := of_decide_eq_true z2
    rw [e] at z3
    omega
theorem SZ_eq : SZ = sizeLine := by rw [sizeLine_eq]; rfl

/-- an operation on values does what g does on data -/
def OpD (X : Cx) (FA : Nat → Option Addr) (f : Value → Value → Sem Value) (g : D → D → Option Sl) : Prop :=
  ∃ r : R2, OpR X f r ∧ ∀ (Z : Addr → Prop) (σ : St) (H : Hp) (ρ : Env) (F : Hp) (x y : V) (a b : D) (s : Sl) (Q : VK), SR X.K FA Z σ H ρ F → RQ X.K FA F H x a → RQ X.K FA F H y b → g a b = some s →
    (∀ v H' F', Ext Z F H F' H' → SR X.K FA Z σ H' ρ F' → RX X.K FA Z σ ρ F' H' v s → Q v H') → r x y H Q
section
variable {X : Cx} {FA : Nat → Option Addr}
theorem OpD.or {f : Value → Value → Sem Value} {g1 g2 g : D → D → Option Sl} (h1 : OpD X FA f g1) (h2 : OpD X FA f g2) (h : ∀ a b s, g a b = some s → g1 a b = some s ∨ g2 a b = some s) : OpD X FA f g := by
  obtain ⟨r1, o1, q1⟩ := h1
  obtain ⟨r2, o2, q2⟩ := h2
  refine ⟨_, o1.or o2, fun Z σ H ρ F x y a b s Q S rx ry e q => ?_⟩
  rcases h a b s e with e | e
  · exact .inl (q1 Z σ H ρ F x y a b s Q S rx ry e q)
  · exact .inr (q2 Z σ H ρ F x y a b s Q S rx ry e q)
/-- ints -/
theorem opD_int {f : Value → Value → Sem Value} {C : Int → Int → Prop} {g : Int → Int → Int} {gd : D → D → Option Sl} (h : OpR X f (rI C fun i j => .int (g i j)))
    (hg : ∀ a b s, gd a b = some s → ∃ i j, a = .int i ∧ b = .int j ∧ C i j ∧ s = .v (.int (g i j))) : OpD X FA f gd := by
  refine ⟨_, h, fun Z σ H ρ F x y a b s Q S rx ry e q => ?_⟩
  obtain ⟨i, j, rfl, rfl, c, rfl⟩ := hg a b s e
  exact ⟨i, j, rx.int, ry.int, c, q _ H F .refl S (.v (.int _))⟩

theorem opD_sub : OpD X FA (binaryOp .Sub) (binD .sub) := by
  refine opD_int (C := fun _ _ => True) (g := fun i j => i - j) (opI fun _ _ _ _ _ _ _ _ q => PyProof.Rows.sub_int q) fun a b s e => ?_
  cases a <;> cases b <;> first | (cases e; done) | skip
  cases e
  exact ⟨_, _, rfl, rfl, trivial, rfl⟩
theorem opD_fdiv : OpD X FA (binaryOp .FloorDiv) (binD .fdiv) := by
  refine opD_int (C := fun i j => j ≠ 0 ∧ j.natAbs.log2 < 9000) (g := fun i j => i.fdiv j) (opI fun i j _ _ _ _ _ hc q => PyProof.Rows.floordiv_int hc.1 q (.inl (PyProof.noPylong_of_log2 hc.2))) fun a b s e => ?_
  cases a <;> cases b <;> first | (cases e; done) | skip
  rename_i i j
  by_cases h : j = 0 ∨ 9000 ≤ j.natAbs.log2
  · simp only [binD, h, if_false, if_true, reduceCtorEq] at e
  · simp only [binD, h, if_false, Option.some.injEq] at e
    exact ⟨i, j, rfl, rfl, ⟨fun z => h (.inl z), by omega⟩, e.symm⟩
theorem opD_mod : OpD X FA (binaryOp .Mod) (binD .mod) := by
  refine opD_int (C := fun i j => j ≠ 0) (g := fun i j => i.fmod j) (opI fun i j _ _ _ _ _ hc q => PyProof.Rows.mod_int' hc q) fun a b s e => ?_
  cases a <;> cases b <;> first | (cases e; done) | skip
  rename_i i j
  by_cases h : j = 0
  · simp only [binD, h, if_false, if_true, reduceCtorEq] at e
  · simp only [binD, h, if_false, Option.some.injEq] at e
    exact ⟨i, j, rfl, rfl, h, e.symm⟩
theorem opD_pow : OpD X FA (binaryOp .Pow) (binD .pow) := by
  refine opD_int (C := CPow) (g := fun i j => i ^ j.toNat) op_pow fun a b s e => ?_
  cases a <;> cases b <;> first | (cases e; done) | skip
  rename_i i j
  by_cases h : 0 ≤ j ∧ j ≤ 1000000 ∧ i.natAbs < 18446744073709551616
  · simp only [binD, h, if_true, and_self, Option.some.injEq] at e
    exact ⟨i, j, rfl, rfl, ⟨h.1, h.2.1, by simpa using h.2.2⟩, e.symm⟩
  · simp only [binD, h, if_false, if_true, reduceCtorEq] at e
theorem opD_shl : OpD X FA (binaryOp .LShift) (binD .shl) := by
  refine opD_int (C := CPow) (g := fun i j => i * 2 ^ j.toNat) op_shl fun a b s e => ?_
  cases a <;> cases b <;> first | (cases e; done) | skip
  rename_i i j
  by_cases h : 0 ≤ j ∧ j ≤ 1000000 ∧ i.natAbs < 18446744073709551616
  · simp only [binD, h, if_true, and_self, Option.some.injEq] at e
    exact ⟨i, j, rfl, rfl, ⟨h.1, h.2.1, by simpa using h.2.2⟩, e.symm⟩
  · simp only [binD, h, if_false, if_true, reduceCtorEq] at e
theorem opD_shr : OpD X FA (binaryOp .RShift) (binD .shr) := by
  refine opD_int (C := fun _ j => 0 ≤ j) (g := fun i j => i / 2 ^ j.toNat) op_shr fun a b s e => ?_
  cases a <;> cases b <;> first | (cases e; done) | skip
  rename_i i j
  by_cases h : 0 ≤ j
  · simp only [binD, h, if_true, Option.some.injEq] at e
    exact ⟨i, j, rfl, rfl, h, e.symm⟩
  · simp only [binD, h, if_false, if_true, reduceCtorEq] at e
theorem str_len (x : List Nat) : (⟨x.toArray⟩ : Str).length = x.length := by
  show x.toArray.size = x.length
  simp
theorem str_app (x y : List Nat) : (⟨x.toArray⟩ : Str) ++ ⟨y.toArray⟩ = ⟨(x ++ y).toArray⟩ := by
  show Str.mk (x.toArray ++ y.toArray) = _
  simp
theorem opD_add : OpD X FA (binaryOp .Add) (binD .add) := by
  refine ⟨_, (op_add (X := X)).or (op_add_str.or (op_catA.or op_cat)), fun Z σ H ρ F x y a b s Q S rx ry e q => ?_⟩
  cases a <;> cases b <;> first | (cases e; done) | skip
  · cases e
    exact .inl ⟨_, _, rx.int, ry.int, q _ H F .refl S (.v (.int _))⟩
  · rename_i x1 y1
    by_cases h : x1.length + y1.length ≤ SZ
    · simp only [binD, h, if_true, Option.some.injEq] at e
      subst e
      obtain ⟨e1, v1⟩ := rx.str
      obtain ⟨e2, v2⟩ := ry.str
      refine .inr (.inl ⟨_, _, e1, e2, by rw [str_len, str_len, ← SZ_eq]; exact h, ?_⟩)
      rw [str_app]
      exact q _ H F .refl S (.v (.str _ fun c hc => (List.mem_append.mp hc).elim (v1 c) (v2 c)))
    · simp only [binD, h, if_false, if_true, reduceCtorEq] at e
  · rename_i x1 y1
    by_cases h : x1.length + y1.length ≤ SZ
    · simp only [binD, h, if_true, Option.some.injEq] at e
      subst e
      obtain ⟨p1, xs, rfl, h1, r1⟩ := rx.tup S.sub
      obtain ⟨p2, ys, rfl, h2, r2⟩ := ry.tup S.sub
      have l1 := r1.length
      have l2 := r2.length
      refine .inr (.inr (.inl ⟨p1, p2, xs, ys, rfl, rfl, h1, h2, by rw [l1, l2, ← SZ_eq]; exact h, fun e => ?_, fun n e => ?_, fun _ _ => res_tup S (r1.append r2) q⟩))
      · subst e
        cases r1
        refine q _ H F .refl S (.v ?_)
        rcases ry with r | ⟨_, _, _, e, _⟩
        · exact r
        · cases e
      · subst e
        cases r2
        refine q _ H F .refl S (.v ?_)
        rw [List.append_nil]
        rcases rx with r | ⟨_, _, _, e, _⟩
        · exact r
        · cases e
    · simp only [binD, h, if_false, if_true, reduceCtorEq] at e
  · rename_i x1 y1
    by_cases h : x1.length + y1.length ≤ SZ
    · simp only [binD, h, if_true, Option.some.injEq] at e
      subst e
      obtain ⟨p1, xs, rfl, h1, r1⟩ := rx.lst S.sub
      obtain ⟨p2, ys, rfl, h2, r2⟩ := ry.lst S.sub
      have l1 := r1.length
      have l2 := r2.length
      exact .inr (.inr (.inr ⟨p1, p2, xs, ys, rfl, rfl, h1, h2, by rw [l1, l2, ← SZ_eq]; exact h, res_lst S (r1.append r2) q⟩))
    · simp only [binD, h, if_false, if_true, reduceCtorEq] at e

theorem Rps.rep {K : PySem.W.Frag} {F : Hp} {vs : List V} {ds : List D} (r : Rps K FA F vs ds) : ∀ k : Nat, Rps K FA F (List.replicate k vs).flatten (List.replicate k ds).flatten
  | 0 => .nil
  | k + 1 => by
    rw [List.replicate_succ, List.replicate_succ, List.flatten_cons, List.flatten_cons]
    exact r.append (Rps.rep r k)
theorem foldl_app (x : Array Nat) : ∀ (k : Nat) (acc : Array Nat), (List.replicate k x).foldl (· ++ ·) acc = acc ++ ((List.replicate k x.toList).flatten).toArray
  | 0, acc => by simp
  | k + 1, acc => by
    rw [List.replicate_succ, List.foldl_cons, foldl_app x k, List.replicate_succ, List.flatten_cons]
    apply Array.toList_inj.mp
    simp
theorem op_mul_str : OpR X (binaryOp .Mult) (fun x y H Q => ∃ (s : List Nat) (k : Int), x = .str ⟨s.toArray⟩ ∧ y = .int k ∧ 0 ≤ k ∧ k ≤ 1000000 ∧ s.length * k.toNat ≤ 1000000 ∧ Q (.str ⟨((List.replicate k.toNat s).flatten).toArray⟩) H) := by
  intro pins s σ H x y v u Q I rx ry h
  obtain ⟨z, k, rfl, rfl, h0, h1, hz, q⟩ := h
  obtain ⟨t, rfl⟩ := rx
  obtain ⟨t', rfl⟩ := ry
  have hl : (⟨z.toArray⟩ : Str).length = z.length := str_len z
  have tl : Builtin.Str.tooLong ((⟨z.toArray⟩ : Str).length * k.toNat) = false := by
    unfold Builtin.Str.tooLong
    rw [hl]
    have : sizeLine = 16777216 := sizeLine_eq
    simp only [decide_eq_false_iff_not]
    omega
  have e : Txt.mul ⟨z.toArray⟩ k = ⟨((List.replicate k.toNat z).flatten).toArray⟩ := by
    unfold Txt.mul
    by_cases c1 : k < 1
    · have : k = 0 := by omega
      subst this
      rfl
    · rw [if_neg c1]
      by_cases c2 : (k == 1 || (⟨z.toArray⟩ : Str).length == 0) = true
      · rw [if_pos c2]
        rw [Bool.or_eq_true, beq_iff_eq, beq_iff_eq, hl] at c2
        rcases c2 with c2 | c2
        · subst c2
          simp
        · have : z = [] := List.eq_nil_of_length_eq_zero c2
          subst this
          simp
      · rw [if_neg c2]
        congr 1
        rw [foldl_app]
        simp
  refine SB.mul ⟨by simp only [Bool.or_eq_false_iff, decide_eq_false_iff_not]; omega, fun c _ => ?_, fun _ _ => tl⟩ fun t' tk => ⟨V.str (Txt.mul ⟨z.toArray⟩ k), H, I.tok _, ⟨t', rfl⟩, by rw [e]; exact q⟩
  rw [hl]
  intro g
  have hk : k = ((k.toNat : Nat) : Int) := by omega
  have h3 : (z.length : Int) * k ≤ 1000000 := by
    rw [hk, ← Int.natCast_mul]
    omega
  by_cases c0 : k = 0
  · subst c0
    simp at *
  · have h4 := (Int.le_ediv_iff_mul_le (a := (z.length : Int)) (b := 2 ^ 63 - 1) (c := k) (by omega)).mpr (by omega)
    omega
/-- a tuple once: itself -/
theorem tuple_mulW1 (l : Addr) (items : Array Value) (n : Nat) (dd : Option Addr) (sl : Array (Option Value)) (u : Tok) :
    Meets (Builtin.«tuple.__mul__» ⟨[.ref l, .int 1 u], []⟩) (fun _ R s => s.heap.get? l = some { cls := .type "tuple", dict := dd, data := .seq items n, slots := sl } ∧ R (.ok (.ret (Value.ref l))) s) :=
  .of_wp fun prog w A R s h => by
    obtain ⟨hp, g, d, tk, os⟩ := s
    obtain ⟨hl, h⟩ := h
    have f1 := AutoSeq1.idx_int
    have c0 : (decide ((1 : Int) < -(2 ^ 63)) || decide ((1 : Int) ≥ 2 ^ 63)) = false := by decide
    have c1 : (items.isEmpty || (1 : Int) == 1) = true := by simp
    wp_walk using wpAny_loadPart' hl
    repeat (first
      | (refine wpAny_ite_false (decide_eq_false (by rw [c0]; exact Bool.false_ne_true)) ?_; wp_walk using wpAny_loadPart' hl)
      | (refine wpAny_ite_true (decide_eq_true (by rw [c1])) ?_; wp_walk using wpAny_loadPart' hl))
    exact ⟨_, rfl, h⟩
def rRepT1 (K : PySem.W.Frag) : R2 := fun x y H Q => ∃ l xs, x = .ref l ∧ y = .int 1 ∧ SqT K H l xs ∧ Q x H
theorem op_repT1 : OpR X (binaryOp .Mult) (rRepT1 X.K) := by
  intro pins s σ H x y v u Q I rx ry h
  obtain ⟨l, xs, rfl, rfl, hT, q⟩ := h
  cases rx
  obtain ⟨t, rfl⟩ := ry
  obtain ⟨its, r, ⟨⟨cls, dd, data, sl⟩, ho, hc, n, hd⟩, hs⟩ := I.tuple hT
  simp only at hc hd
  subst hc hd
  refine wpAny_binaryOp_repeat_ref (T := "tuple") (U := "int") (by decide) ⟨_, ho, rfl⟩ (fun s' => typeIs_int s' 1 t) noFill_tuple_mul F.fills_int_mul F.slot_int_rmul repeat_tuple F.slot_int_index.lookup
    (call_meets F.slot_int_rmul (typeIs_int s 1 t) F.entry_int_rmul (F.args_int_rmul_2 _ _) (int_rmul_tuple 1 t l its.toArray n dd sl)
      ⟨ho, rfl, ⟨_, ho, rfl⟩, call_meets F.slot_tuple_mul ⟨_, ho, rfl⟩ F.entry_tuple_mul (F.args_tuple_mul_2 _ _) (tuple_mulW1 l its.toArray n dd sl t) ⟨ho, ?_⟩⟩)
  exact ⟨.ref l, H, I, rfl, q⟩
theorem opD_mul : OpD X FA (binaryOp .Mult) (binD .mul) := by
  have om : OpR X (binaryOp .Mult) (rI (fun i j => mulOk i j = true) fun i j => .int (i * j)) := opI fun _ _ _ _ _ _ _ hc q => PyProof.Rows.mul_int q (mulOk_ok hc)
  refine ⟨_, om.or (op_mul_str.or (op_repT.or (op_rep.or op_repT1))), fun Z σ H ρ F x y a b s Q S rx ry e q => ?_⟩
  cases a <;> cases b <;> first | (cases e; done) | skip
  · rename_i i j
    by_cases h : mulOk i j = true
    · simp only [binD, h, if_true, Option.some.injEq] at e
      subst e
      exact .inl ⟨_, _, rx.int, ry.int, h, q _ H F .refl S (.v (.int _))⟩
    · simp only [binD, h, if_false, if_true, reduceCtorEq] at e
  · rename_i z k
    by_cases h : 0 ≤ k ∧ k ≤ 1000000 ∧ z.length * k.toNat ≤ 1000000
    · simp only [binD, h, if_true, and_self, Option.some.injEq] at e
      subst e
      obtain ⟨e1, v1⟩ := rx.str
      refine .inr (.inl ⟨z, k, e1, ry.int, h.1, h.2.1, h.2.2, q _ H F .refl S (.v (.str _ fun c hc => ?_))⟩)
      obtain ⟨l, hl, hc⟩ := List.mem_flatten.mp hc
      rw [(List.mem_replicate.mp hl).2] at hc
      exact v1 c hc
    · simp only [binD, h, if_false, if_true, reduceCtorEq] at e
  · rename_i z k
    by_cases h : 1 ≤ k ∧ k ≤ 1000 ∧ z.length ≤ 1000 ∧ z.length ≠ 0
    · simp only [binD, h, if_true, and_self, not_false_eq_true, ne_eq, Option.some.injEq] at e
      subst e
      by_cases hk1 : k = 1
      · subst hk1
        obtain ⟨p1, xs, rfl, h1, r1⟩ := rx.tup S.sub
        refine .inr (.inr (.inr (.inr ⟨p1, xs, rfl, ry.int, h1, ?_⟩)))
        refine q _ H F .refl S ?_
        have e1 : (List.replicate (1 : Int).toNat z).flatten = z := by simp
        rw [e1]
        rcases rx with rx | ⟨_, _, _, e2, _⟩
        · exact .v rx
        · cases e2
      have h : 2 ≤ k ∧ k ≤ 1000 ∧ z.length ≤ 1000 ∧ z.length ≠ 0 := ⟨by omega, h.2⟩
      obtain ⟨p1, xs, rfl, h1, r1⟩ := rx.tup S.sub
      have l1 := r1.length
      exact .inr (.inr (.inl ⟨p1, k, xs, rfl, ry.int, h1, fun e => h.2.2.2 (by rw [← l1, e]; rfl), h.1, h.2.1, by rw [l1]; exact h.2.2.1, res_tup S (Rps.rep r1 _) q⟩))
    · simp only [binD, h, if_false, if_true, reduceCtorEq] at e
  · rename_i z k
    by_cases h : 0 ≤ k ∧ k ≤ 1000000 ∧ z.length * k.toNat ≤ 1000000
    · simp only [binD, h, if_true, and_self, Option.some.injEq] at e
      subst e
      obtain ⟨p1, xs, rfl, h1, r1⟩ := rx.lst S.sub
      have l1 := r1.length
      have hs : sizeLine = 16777216 := sizeLine_eq
      exact .inr (.inr (.inr (.inl ⟨p1, k, xs, rfl, ry.int, h1, by omega, by omega, by rw [l1]; omega, res_lst S (Rps.rep r1 _) q⟩)))
    · simp only [binD, h, if_false, if_true, reduceCtorEq] at e

/-! ### comparisons -/
def cmpS (op : Cop) (a b : D) : Option Sl := (cmpD op a b).map fun r => .v (.bl r)
theorem cmpS_some {op : Cop} {a b : D} {s : Sl} (e : cmpS op a b = some s) : ∃ r, cmpD op a b = some r ∧ s = .v (.bl r) := by
  unfold cmpS at e
  cases h : cmpD op a b with
  | none => rw [h] at e; cases e
  | some r =>
    rw [h] at e
    cases e
    exact ⟨r, rfl, rfl⟩
theorem opD_cmp {f : Value → Value → Sem Value} {gd : D → D → Option Sl} {r : R2} (h : OpR X f r)
    (hg : ∀ (F H : Hp) (x y : V) (a b : D) (s : Sl) (Q : VK), Sub F H → RQ X.K FA F H x a → RQ X.K FA F H y b → gd a b = some s → ∃ k, s = .v (.bl k) ∧ (Q (.bl k) H → r x y H Q)) : OpD X FA f gd := by
  refine ⟨_, h, fun Z σ H ρ F x y a b s Q S rx ry e q => ?_⟩
  obtain ⟨k, rfl, hr⟩ := hg F H x y a b s Q S.sub rx ry e
  exact hr (q _ H F .refl S (.v (.bl _)))
def rEqM (K : PySem.W.Frag) (neg : Bool) : R2 := fun x y H Q => ∃ d e, Dp K H x d ∧ Dp K H y e ∧ d.canLay0 = true ∧ e.canLay0 = true ∧ min d.depth e.depth ≤ 64 ∧ Q (.bl (if neg then !PyData.eqv d e else PyData.eqv d e)) H
theorem op_eqM (hu : X.A.units + 64 < cLine) : OpR X (compareOp .Eq) (rEqM X.K false) := by
  intro pins s σ H x y v u Q I rx ry h
  obtain ⟨d, e, hd, he, sd, se, hm, q⟩ := h
  obtain ⟨as, r1⟩ := Dp.reads I d x v hd rx
  obtain ⟨bs, r2⟩ := Dp.reads I e y u he ry
  exact SeqAt.compareEq_reads r1 r2 sd se (by omega) ⟨.bl _, H, I, rfl, q⟩
theorem op_neM (hu : X.A.units + 64 < cLine) : OpR X (compareOp .NotEq) (rEqM X.K true) := by
  intro pins s σ H x y v u Q I rx ry h
  obtain ⟨d, e, hd, he, sd, se, hm, q⟩ := h
  obtain ⟨as, r1⟩ := Dp.reads I d x v hd rx
  obtain ⟨bs, r2⟩ := Dp.reads I e y u he ry
  exact SeqAt.compareNe_reads r1 r2 sd se (by omega) ⟨.bl _, H, I, rfl, q⟩
theorem eqOk_of {a b : D} (h : eqOk a b = true) : pln a = true ∧ pln b = true ∧ min (dep a) (dep b) ≤ 64 := by
  unfold eqOk at h
  rw [Bool.and_eq_true, Bool.and_eq_true, decide_eq_true_eq] at h
  exact ⟨h.1.1, h.1.2, h.2⟩
theorem opD_eq (hu : X.A.units + 64 < cLine) : OpD X FA (compareOp .Eq) (cmpS .eq) := by
  refine opD_cmp (op_eqM hu) fun F H x y a b s Q S rx ry e => ?_
  obtain ⟨r, e1, e2⟩ := cmpS_some e
  subst e2
  clear e
  have e : (if eqOk a b then some _ else none) = some r := e1
  by_cases h : eqOk a b = true
  · rw [if_pos h] at e
    cases e
    obtain ⟨p1, p2, p3⟩ := eqOk_of h
    exact ⟨_, rfl, fun q => ⟨_, _, (rx.rp S).dp p1, (ry.rp S).dp p2, (rx.rp S).lay p1, (ry.rp S).lay p2, by rw [dep_py, dep_py]; exact p3, by rw [if_neg Bool.false_ne_true, eqv_py a b p1 p2]; exact q⟩⟩
  · rw [if_neg h] at e
    cases e
theorem opD_ne (hu : X.A.units + 64 < cLine) : OpD X FA (compareOp .NotEq) (cmpS .ne) := by
  refine opD_cmp (op_neM hu) fun F H x y a b s Q S rx ry e => ?_
  obtain ⟨r, e1, e2⟩ := cmpS_some e
  subst e2
  clear e
  have e : (if eqOk a b then some _ else none) = some r := e1
  by_cases h : eqOk a b = true
  · rw [if_pos h] at e
    cases e
    obtain ⟨p1, p2, p3⟩ := eqOk_of h
    exact ⟨_, rfl, fun q => ⟨_, _, (rx.rp S).dp p1, (ry.rp S).dp p2, (rx.rp S).lay p1, (ry.rp S).lay p2, by rw [dep_py, dep_py]; exact p3, by rw [if_pos rfl, eqv_py a b p1 p2]; exact q⟩⟩
  · rw [if_neg h] at e
    cases e
def rLtD (K : PySem.W.Frag) : R2 := fun x y H Q => ∃ d e, Dp K H x d ∧ Dp K H y e ∧ PySem.W.alike d e = true ∧ d ≠ .none ∧ d.depth ≤ 61 ∧ Q (.bl (PySem.W.dataLt d e)) H
theorem op_ltD (hu : X.A.units + 65 < cLine) : OpR X (compareOp .Lt) (rLtD X.K) := by
  intro pins s σ H x y v u Q I rx ry h
  obtain ⟨d, e, hd, he, ha, hn, hz, q⟩ := h
  obtain ⟨as, r1⟩ := Dp.reads I d x v hd rx
  obtain ⟨bs, r2⟩ := Dp.reads I e y u he ry
  exact PySem.W.lt_data r1 r2 ha hn (by omega) ⟨.bl _, H, I, rfl, q⟩
theorem opD_lt (hu : X.A.units + 65 < cLine) : OpD X FA (compareOp .Lt) (cmpS .lt) := by
  refine opD_cmp ((op_lt.or op_lt_str).or (op_ltD hu)) fun F H x y a b s Q S rx ry e => ?_
  obtain ⟨r, e, rfl⟩ := cmpS_some e
  cases a <;> cases b <;> first | (cases e; done) | skip
  · cases e
    exact ⟨_, rfl, fun q => .inl (.inl ⟨_, _, rx.int, ry.int, q⟩)⟩
  · cases e
    exact ⟨_, rfl, fun q => .inl (.inr ⟨_, _, rx.str.1, ry.str.1, q⟩)⟩
  · rename_i ds es e0
    have e : (if ltOk ds es then some (plts ds es) else none) = some r := e0
    by_cases h : ltOk ds es = true
    · rw [if_pos h] at e
      cases e
      unfold ltOk at h
      simp only [Bool.and_eq_true, decide_eq_true_eq] at h
      obtain ⟨⟨⟨h1, h2⟩, h3⟩, h4⟩ := h
      have p1 : pln (.tup ds) = true := h1
      have p2 : pln (.tup es) = true := h2
      have p3 : alk (.tup ds) (.tup es) = true := h3
      refine ⟨_, rfl, fun q => .inr ⟨_, _, (rx.rp S).dp p1, (ry.rp S).dp p2, by rw [alk_py _ _ p1 p2]; exact p3, by simp [py], by rw [dep_py]; show deps ds + 1 ≤ 61; omega, ?_⟩⟩
      rw [plt_py _ _ p1 p2 p3]
      exact q
    · rw [if_neg h] at e
      cases e
theorem opD_le : OpD X FA (compareOp .LtE) (cmpS .le) := by
  refine opD_cmp op_le fun F H x y a b s Q S rx ry e => ?_
  obtain ⟨r, e, rfl⟩ := cmpS_some e
  cases a <;> cases b <;> first | (cases e; done) | skip
  cases e
  exact ⟨_, rfl, fun q => ⟨_, _, rx.int, ry.int, q⟩⟩
theorem opD_gt : OpD X FA (compareOp .Gt) (cmpS .gt) := by
  refine opD_cmp op_gt fun F H x y a b s Q S rx ry e => ?_
  obtain ⟨r, e, rfl⟩ := cmpS_some e
  cases a <;> cases b <;> first | (cases e; done) | skip
  cases e
  exact ⟨_, rfl, fun q => ⟨_, _, rx.int, ry.int, q⟩⟩
theorem opD_ge : OpD X FA (compareOp .GtE) (cmpS .ge) := by
  refine opD_cmp op_ge fun F H x y a b s Q S rx ry e => ?_
  obtain ⟨r, e, rfl⟩ := cmpS_some e
  cases a <;> cases b <;> first | (cases e; done) | skip
  cases e
  exact ⟨_, rfl, fun q => ⟨_, _, rx.int, ry.int, q⟩⟩
end
end Rf

set_option maxHeartbeats 1000000
/-! Rf4: states put together and parted: calls. -/
namespace Rf
open PySem PySem.Spec L2
section
variable {K : PySem.W.Frag} {FA CA : Nat → Option Addr} {W : WX} {Z : Addr → Prop} {σ σa σb : St} {H F H' F' : Hp} {ρ ρa ρb ρa' : Env} {x : V} {s : Sl}
theorem owns_cons0 {a : Addr} (h : owns (some x :: σ) (some s :: ρ) 0 a) : x = .ref a ∧ ∃ d, s = .o d := by
  obtain ⟨e, d, e2⟩ := h
  simp only [List.getElem?_cons_zero, Option.some.injEq] at e e2
  exact ⟨e, d, e2⟩
theorem owns_consS {a : Addr} {i : Nat} {u : Option V} {t : Option Sl} : owns (u :: σ) (t :: ρ) (i + 1) a ↔ owns σ ρ i a := by
  unfold owns
  simp only [List.getElem?_cons_succ]
/-- one more slot ahead -/
theorem SR.push (S : SR K FA Z σ H ρ F) (r : RX K FA Z σ ρ F H x s) : SR K FA Z (some x :: σ) H (some s :: ρ) F := by
  refine ⟨S.sub, S.zf, congrArg (· + 1) S.len, fun i t e => ?_, fun i a o => ?_, fun i j a o1 o2 => ?_⟩
  · cases i with
    | zero =>
      simp only [List.getElem?_cons_zero, Option.some.injEq] at e
      subst e
      exact ⟨x, rfl, r.1⟩
    | succ i =>
      simp only [List.getElem?_cons_succ] at e
      obtain ⟨y, e1, h⟩ := S.slot i t e
      exact ⟨y, by simpa using e1, h⟩
  · cases i with
    | zero =>
      obtain ⟨e1, e2⟩ := owns_cons0 o
      exact (r.2 a e1 e2).1
    | succ i => exact S.oz i a (owns_consS.mp o)
  · cases i with
    | zero =>
      obtain ⟨e1, e2⟩ := owns_cons0 o1
      cases j with
      | zero => rfl
      | succ j => exact absurd (owns_consS.mp o2) ((r.2 a e1 e2).2 j)
    | succ i =>
      cases j with
      | zero =>
        obtain ⟨e1, e2⟩ := owns_cons0 o2
        exact absurd (owns_consS.mp o1) ((r.2 a e1 e2).2 i)
      | succ j => exact congrArg (· + 1) (S.dis i j a (owns_consS.mp o1) (owns_consS.mp o2))
/-- a slot without anything -/
theorem SR.push0 {u : Option V} (S : SR K FA Z σ H ρ F) : SR K FA Z (u :: σ) H (none :: ρ) F := by
  have no : ∀ {i a}, owns (u :: σ) (none :: ρ) i a → ∃ j, i = j + 1 ∧ owns σ ρ j a := fun {i a} o => by
    cases i with
    | zero =>
      obtain ⟨_, d, e⟩ := o
      simp at e
    | succ i => exact ⟨i, rfl, owns_consS.mp o⟩
  refine ⟨S.sub, S.zf, congrArg (· + 1) S.len, fun i t e => ?_, fun i a o => ?_, fun i j a o1 o2 => ?_⟩
  · cases i with
    | zero => simp at e
    | succ i =>
      simp only [List.getElem?_cons_succ] at e
      obtain ⟨y, e1, h⟩ := S.slot i t e
      exact ⟨y, by simpa using e1, h⟩
  · obtain ⟨j, _, o⟩ := no o
    exact S.oz j a o
  · obtain ⟨i', rfl, o1⟩ := no o1
    obtain ⟨j', rfl, o2⟩ := no o2
    exact congrArg (· + 1) (S.dis i' j' a o1 o2)
theorem SR.pop {t : Option Sl} {u : Option V} (S : SR K FA Z (u :: σ) H (t :: ρ) F) : SR K FA Z σ H ρ F := by
  refine ⟨S.sub, S.zf, Nat.succ.inj S.len, fun i t e => ?_, fun i a o => S.oz (i + 1) a (owns_consS.mpr o), fun i j a o1 o2 => Nat.succ.inj (S.dis (i + 1) (j + 1) a (owns_consS.mpr o1) (owns_consS.mpr o2))⟩
  obtain ⟨y, e1, h⟩ := S.slot (i + 1) t (by simpa using e)
  exact ⟨y, by simpa using e1, h⟩
theorem SR.popX {u : Option V} (S : SR K FA Z (u :: σ) H (some s :: ρ) F) : ∃ x, u = some x ∧ RX K FA Z σ ρ F H x s := by
  obtain ⟨y, e1, h⟩ := S.slot 0 s rfl
  simp only [List.getElem?_cons_zero, Option.some.injEq] at e1
  subst e1
  refine ⟨y, rfl, h, fun a e ⟨d, ed⟩ => ?_⟩
  have o : owns (some y :: σ) (some s :: ρ) 0 a := ⟨by rw [e]; rfl, d, by rw [ed]; rfl⟩
  exact ⟨S.oz 0 a o, fun i o2 => by
    have := S.dis 0 (i + 1) a o (owns_consS.mpr o2)
    omega⟩
theorem owns_app {i : Nat} {a : Addr} (h : ρa.length = σa.length) : owns (σa ++ σb) (ρa ++ ρb) i a ↔ (i < σa.length ∧ owns σa ρa i a) ∨ (σa.length ≤ i ∧ owns σb ρb (i - σa.length) a) := by
  unfold owns
  rcases Nat.lt_or_ge i σa.length with l | l
  · rw [List.getElem?_append_left l, List.getElem?_append_left (by omega)]
    constructor
    · intro q
      exact .inl ⟨l, q⟩
    · rintro (⟨_, q⟩ | ⟨l2, _⟩)
      · exact q
      · omega
  · rw [List.getElem?_append_right l, List.getElem?_append_right (by omega), h]
    constructor
    · intro q
      exact .inr ⟨l, q⟩
    · rintro (⟨l2, _⟩ | ⟨_, q⟩)
      · omega
      · exact q
/-- the first slots alone: what the others own is not theirs to change -/
theorem SR.part (h : ρa.length = σa.length) (S : SR K FA Z (σa ++ σb) H (ρa ++ ρb) F) : SR K FA (fun a => Z a ∨ ∃ i, owns σb ρb i a) σa H ρa F := by
  have up : ∀ {i a}, owns σa ρa i a → owns (σa ++ σb) (ρa ++ ρb) i a := fun {i a} o => (owns_app h).mpr (.inl ⟨by
    obtain ⟨e, _⟩ := o
    exact (List.getElem?_eq_some_iff.mp e).1, o⟩)
  have upb : ∀ {i a}, owns σb ρb i a → owns (σa ++ σb) (ρa ++ ρb) (σa.length + i) a := fun {i a} o => (owns_app h).mpr (.inr ⟨by omega, by
    rw [Nat.add_sub_cancel_left]
    exact o⟩)
  refine ⟨S.sub, fun a z => ?_, h, fun i t e => ?_, fun i a o z => ?_, fun i j a o1 o2 => S.dis i j a (up o1) (up o2)⟩
  · rcases z with z | ⟨i, o⟩
    · exact S.zf a z
    · obtain ⟨e1, d, e2⟩ := upb o
      obtain ⟨y, e3, r⟩ := S.slot _ _ e2
      rw [e1] at e3
      cases e3
      obtain ⟨a', xs, ds, ea, rfl, nF, hH, _⟩ := own_lst r
      cases ea
      exact ⟨nF, _, hH⟩
  · have hl : i < ρa.length := (List.getElem?_eq_some_iff.mp e).1
    obtain ⟨y, e1, r⟩ := S.slot i t (by rw [List.getElem?_append_left hl]; exact e)
    rw [List.getElem?_append_left (by omega)] at e1
    exact ⟨y, e1, r⟩
  · rcases z with z | ⟨j, o2⟩
    · exact S.oz i a (up o) z
    · have e := S.dis i _ a (up o) (upb o2)
      have hl : i < σa.length := (List.getElem?_eq_some_iff.mp o.1).1
      omega
/-- put together again -/
theorem SR.join (h : ρa.length = σa.length) (h' : ρa'.length = σa.length) (S : SR K FA Z (σa ++ σb) H (ρa ++ ρb) F) (S' : SR K FA (fun a => Z a ∨ ∃ i, owns σb ρb i a) σa H' ρa' F') (e : Ext (fun a => Z a ∨ ∃ i, owns σb ρb i a) F H F' H') :
    SR K FA Z (σa ++ σb) H' (ρa' ++ ρb) F' ∧ Ext Z F H F' H' := by
  have upb : ∀ {i a}, owns σb ρb i a → owns (σa ++ σb) (ρa ++ ρb) (σa.length + i) a := fun {i a} o => (owns_app h).mpr (.inr ⟨by omega, by
    rw [Nat.add_sub_cancel_left]
    exact o⟩)
  refine ⟨⟨S'.sub, fun a z => S'.zf a (.inl z), ?_, fun i t et => ?_, fun i a o z => ?_, fun i j a o1 o2 => ?_⟩, e.sub, fun a z => e.keep a (.inl z)⟩
  · have := S.len
    simp only [List.length_append] at this ⊢
    omega
  · rcases Nat.lt_or_ge i σa.length with l | l
    · rw [List.getElem?_append_left (by omega)] at et
      obtain ⟨y, e1, r⟩ := S'.slot i t et
      exact ⟨y, by rw [List.getElem?_append_left l]; exact e1, r⟩
    · rw [List.getElem?_append_right (by omega), h'] at et
      obtain ⟨y, e1, r⟩ := S.slot i t (by rw [List.getElem?_append_right (by omega), h]; exact et)
      refine ⟨y, e1, r.mono e.sub fun a ey ⟨d, ed⟩ => ?_⟩
      subst ey ed
      have o : owns σb ρb (i - σa.length) a := by
        rw [List.getElem?_append_right l] at e1
        exact ⟨e1, d, et⟩
      exact ⟨(S'.zf a (.inr ⟨_, o⟩)).1, e.keep a (.inr ⟨_, o⟩)⟩
  · rcases (owns_app h').mp o with ⟨_, o⟩ | ⟨_, o⟩
    · exact S'.oz i a o (.inl z)
    · exact S.oz _ a (upb o) z
  · rcases (owns_app h').mp o1 with ⟨l1, o1⟩ | ⟨l1, o1⟩
    · rcases (owns_app h').mp o2 with ⟨_, o2⟩ | ⟨_, o2⟩
      · exact S'.dis i j a o1 o2
      · exact absurd (.inr ⟨_, o2⟩) (S'.oz i a o1)
    · rcases (owns_app h').mp o2 with ⟨_, o2⟩ | ⟨l2, o2⟩
      · exact absurd (.inr ⟨_, o1⟩) (S'.oz j a o2)
      · have := S.dis _ _ a (upb o1) (upb o2)
        omega
/-- what slot i owns is nobody's once it is forgotten -/
theorem SR.lentX {i : Nat} {d : D} (S : SR K FA Z σ H ρ F) (e : ρ[i]? = some (some (.o d))) : ∃ x, σ[i]? = some (some x) ∧ RX K FA Z σ (ρ.set i none) F H x (.o d) := by
  obtain ⟨x, ex, r⟩ := S.slot i _ e
  refine ⟨x, ex, r, fun a ea _ => ?_⟩
  subst ea
  refine ⟨S.oz i a ⟨ex, d, e⟩, fun j ⟨o1, d', o2⟩ => ?_⟩
  by_cases h : i = j
  · subst h
    rw [List.getElem?_set] at o2
    simp at o2
  · rw [List.getElem?_set_ne h] at o2
    exact h (S.dis i j a ⟨ex, d, e⟩ ⟨o1, d', o2⟩)
theorem owns_set_none {i j : Nat} {a : Addr} (o : owns σ (ρ.set i none) j a) : owns σ ρ j a := by
  obtain ⟨e1, d, e2⟩ := o
  by_cases h : i = j
  · subst h
    rw [List.getElem?_set] at e2
    simp at e2
  · rw [List.getElem?_set_ne h] at e2
    exact ⟨e1, d, e2⟩
theorem lend_ok : ∀ {xs : List (Nat ⊕ D)} {vs : List V} {ρ ρ1 : Env} {ss : List Sl}, SR K FA Z σ H ρ F → ROs K FA σ F xs vs → lend xs ρ = some (ss, ρ1) →
    ss.length = vs.length ∧ SR K FA Z (vs.map some ++ σ) H (ss.map some ++ ρ1) F ∧ ∀ j a, owns (vs.map some ++ σ) (ss.map some ++ ρ1) j a → ∃ i, owns σ ρ i a
  | _, _, ρ, ρ1, ss, S, .nil, e => by
    cases e
    exact ⟨rfl, S, fun j a o => ⟨j, o⟩⟩
  | _, _, ρ, ρ1, ss, S, .cons (q := q) (x := x) r rs, e => by
    cases q with
    | inr d =>
      rw [lend] at e
      obtain ⟨⟨ss', ρ'⟩, e1, e2⟩ := Option.map_eq_some_iff.mp e
      cases e2
      obtain ⟨l, S1, o1⟩ := lend_ok S rs e1
      refine ⟨congrArg (· + 1) l, S1.push (RX.v r), fun j a o => ?_⟩
      cases j with
      | zero =>
        obtain ⟨_, d', e3⟩ := owns_cons0 o
        cases e3
      | succ j => exact o1 j a (owns_consS.mp o)
    | inl i =>
      rw [lend] at e
      have r : σ[i]? = some (some x) := r
      cases g : gt ρ i with
      | none =>
        rw [g] at e
        cases e
      | some s =>
        have g' := gt_some.mp g
        rw [g] at e
        cases s with
        | v d =>
          obtain ⟨⟨ss', ρ'⟩, e1, e2⟩ := Option.map_eq_some_iff.mp e
          cases e2
          obtain ⟨l, S1, o1⟩ := lend_ok S rs e1
          obtain ⟨x', ex, rr⟩ := S.slot i _ g'
          rw [r] at ex
          cases ex
          refine ⟨congrArg (· + 1) l, S1.push (RX.v rr), fun j a o => ?_⟩
          cases j with
          | zero =>
            obtain ⟨_, d', e3⟩ := owns_cons0 o
            cases e3
          | succ j => exact o1 j a (owns_consS.mp o)
        | o d =>
          obtain ⟨⟨ss', ρ'⟩, e1, e2⟩ := Option.map_eq_some_iff.mp e
          cases e2
          obtain ⟨l, S1, o1⟩ := lend_ok (S.forget i) rs e1
          obtain ⟨x', ex, rr⟩ := S.lentX g'
          rw [r] at ex
          cases ex
          refine ⟨congrArg (· + 1) l, S1.push ⟨rr.1, fun a ea ed => ⟨(rr.2 a ea ed).1, fun j o => ?_⟩⟩, fun j a o => ?_⟩
          · obtain ⟨k, o'⟩ := o1 j a o
            exact (rr.2 a ea ed).2 k o'
          · cases j with
            | zero =>
              obtain ⟨e3, d', e4⟩ := owns_cons0 o
              subst e3
              exact ⟨i, r, d, g'⟩
            | succ j =>
              obtain ⟨k, o'⟩ := o1 j a (owns_consS.mp o)
              exact ⟨k, owns_set_none o'⟩
theorem set_self {α : Type} {l : List α} {i : Nat} {a : α} (h : l[i]? = some a) : l.set i a = l := by
  obtain ⟨hl, e⟩ := List.getElem?_eq_some_iff.mp h
  apply List.ext_getElem?
  intro j
  by_cases q : i = j
  · subst q
    rw [List.getElem?_set_self hl, h]
  · rw [List.getElem?_set_ne q]
theorem ROs.mono {F1 : Hp} (s : Sub F F1) : ∀ {xs : List (Nat ⊕ D)} {vs : List V}, ROs K FA σ F xs vs → ROs K FA σ F1 xs vs
  | _, _, .nil => .nil
  | _, _, .cons r rs => .cons (r.mono s) (ROs.mono s rs)
theorem back_ok : ∀ {xs : List (Nat ⊕ D)} {vs : List V} {ρ : Env} {ss ss' : List Sl}, ROs K FA σ F xs vs → ss.length = vs.length → ss'.length = vs.length → SR K FA Z (vs.map some ++ σ) H' (ss'.map some ++ ρ) F' → SR K FA Z σ H' (back xs ss ss' ρ) F'
  | _, _, ρ, ss, ss', .nil, l1, l2, S => by
    have e1 : ss = [] := List.eq_nil_of_length_eq_zero l1
    have e2 : ss' = [] := List.eq_nil_of_length_eq_zero l2
    subst e1 e2
    exact S
  | _, _, ρ, s :: ss, s' :: ss', .cons (q := q) (qs := qs) (x := x) (xs := vs) r rs, l1, l2, S => by
    have m1 := Nat.succ.inj l1
    have m2 := Nat.succ.inj l2
    have S : SR K FA Z (some x :: (List.map some vs ++ σ)) H' (some s' :: (ss'.map some ++ ρ)) F' := S
    cases q with
    | inr d =>
      have h := back_ok rs m1 m2 S.pop
      cases s <;> exact h
    | inl i =>
      cases s with
      | v d =>
        have h := back_ok rs m1 m2 S.pop
        exact h
      | o d =>
        have r : σ[i]? = some (some x) := r
        obtain ⟨x', ex, rx⟩ := S.popX
        cases ex
        have S2 := S.pop.store (i := ss'.length + i) rx
        have el : (List.map some ss' ++ ρ).set (ss'.length + i) (some s') = List.map some ss' ++ ρ.set i (some s') := by
          rw [List.set_append_right _ _ (by simp)]
          simp
        have es : (List.map some vs ++ σ).set (ss'.length + i) (some x) = List.map some vs ++ σ := set_self (by
          rw [List.getElem?_append_right (by rw [List.length_map]; omega), List.length_map, m2, Nat.add_sub_cancel_left]
          exact r)
        rw [el, es] at S2
        have h := back_ok rs m1 m2 S2
        exact h
theorem back_owns {i : Nat} {a : Addr} : ∀ {xs : List (Nat ⊕ D)} {vs : List V} {ρ : Env} {ss ss' : List Sl}, ROs K FA σ F xs vs → ss.length = vs.length → ss'.length = vs.length → owns σ (back xs ss ss' ρ) i a → owns σ ρ i a ∨ ∃ j, owns (vs.map some) (ss'.map some) j a
  | _, _, ρ, ss, ss', .nil, l1, l2, o => by
    have e1 : ss = [] := List.eq_nil_of_length_eq_zero l1
    have e2 : ss' = [] := List.eq_nil_of_length_eq_zero l2
    subst e1 e2
    exact .inl o
  | _, _, ρ, s :: ss, s' :: ss', .cons (q := q) (qs := qs) (x := x) (xs := vs) r rs, l1, l2, o => by
    have m1 := Nat.succ.inj l1
    have m2 := Nat.succ.inj l2
    have up : (owns σ ρ i a ∨ ∃ j, owns (vs.map some) (ss'.map some) j a) → owns σ ρ i a ∨ ∃ j, owns ((x :: vs).map some) ((s' :: ss').map some) j a := fun h => h.imp id fun ⟨j, o⟩ => ⟨j + 1, owns_consS.mpr o⟩
    cases q with
    | inr d =>
      have h := fun o => up (back_owns (ρ := ρ) rs m1 m2 o)
      cases s <;> exact h o
    | inl k =>
      cases s with
      | v d =>
        have h := fun o => up (back_owns (ρ := ρ) rs m1 m2 o)
        exact h o
      | o d =>
        have r : σ[k]? = some (some x) := r
        have h := back_owns (ρ := ρ.set k (some s')) rs m1 m2 o
        rcases h with ⟨e1, d', e2⟩ | ⟨j, o⟩
        · by_cases hk : k = i
          · subst hk
            rw [r] at e1
            cases e1
            have hl : k < ρ.length := by
              have := (List.getElem?_eq_some_iff.mp e2).1
              rw [List.length_set] at this
              exact this
            rw [List.getElem?_set_self hl] at e2
            cases e2
            exact .inr ⟨0, rfl, d', rfl⟩
          · rw [List.getElem?_set_ne hk] at e2
            exact .inl ⟨e1, d', e2⟩
        · exact .inr ⟨j + 1, owns_consS.mpr o⟩
end

/-! ### what a def promises -/
section
variable (K : PySem.W.Frag) (FA CA : Nat → Option Addr)
/-- behind a call -/
def PoF (Z : Addr → Prop) (vs : List V) (H F : Hp) (n : Nat) (r : FR) (Q : VK) (E : XK) : Prop :=
  match r with
  | .ok s ss => ∀ v H' F', ss.length = n → Ext Z F H F' H' → SR K FA Z (vs.map some) H' (ss.map some) F' → RX K FA Z (vs.map some) (ss.map some) F' H' v s → Q v H'
  | .ex e ss => ∀ H' F', ss.length = n → Ext Z F H F' H' → SR K FA Z (vs.map some) H' (ss.map some) F' → ∀ C, CA e.c = some C → e.a = none → E (.ref C) none H'
  | .bad => False
def spF (Φ : PhiT) (f n : Nat) : Sp := fun vs H Q E => vs.length = n ∧ ∃ Z F ss, ss.length = n ∧ SR K FA Z (vs.map some) H (ss.map some) F ∧ PoF K FA CA Z vs H F n (Φ f ss) Q E
end
section
variable {K : PySem.W.Frag} {FA CA : Nat → Option Addr} {W : WX} {Z : Addr → Prop} {σ : St} {H F : Hp} {ρ : Env}
/-- a call's reading, from the evaluator's -/
theorem call_sp {Φ : PhiT} {f : Nat} {xs : List (Nat ⊕ D)} {vs : List V} {Q : VK} (S : SR K FA Z σ H ρ F) (r : ROs K FA σ F xs vs) (p : Po K FA CA W Z σ H F (callF Φ f xs ρ) fun s H' ρ' F' => ∀ x, RX K FA Z σ ρ' F' H' x s → Q x H') :
    spF K FA CA Φ f vs.length vs H Q fun c d H' => W c d σ H' := by
  unfold callF at p
  cases hl : lend xs ρ with
  | none =>
    rw [hl] at p
    exact p.elim
  | some q =>
    obtain ⟨ss, ρ1⟩ := q
    rw [hl] at p
    dsimp only at p
    obtain ⟨l, S1, o1⟩ := lend_ok S r hl
    have la : (ss.map some).length = (vs.map some).length := by rw [List.length_map, List.length_map, l]
    have SP := S1.part la
    refine ⟨rfl, _, F, ss, l, SP, ?_⟩
    cases hf : Φ f ss with
    | bad =>
      rw [hf] at p
      exact p.elim
    | ex e ss' =>
      rw [hf] at p
      intro H' F' le E' S' C hC ha
      obtain ⟨S2, E2⟩ := SR.join la (by rw [List.length_map, List.length_map, le]) S1 S' E'
      exact p H' F' E2 (back_ok (r.mono E'.sub) l le S2) C hC ha
    | ok s ss' =>
      rw [hf] at p
      intro v H' F' le E' S' R'
      obtain ⟨S2, E2⟩ := SR.join la (by rw [List.length_map, List.length_map, le]) S1 S' E'
      have S3 := back_ok (r.mono E'.sub) l le S2
      refine p H' F' E2 S3 v ⟨R'.1, fun a ea ed => ?_⟩
      obtain ⟨q1, q2⟩ := R'.2 a ea ed
      refine ⟨fun z => q1 (.inl z), fun i o => ?_⟩
      rcases back_owns r l le o with o | ⟨j, o⟩
      · exact q1 (.inr ⟨i, o⟩)
      · exact q2 j o
end
end Rf

set_option maxHeartbeats 1000000
/-! Rf5: the rules of expressions. -/
namespace Rf
open PySem PySem.Spec L2

/-- what a global name is -/
inductive GI where
  | fn (f : Nat) (ps : List Str) (dfl : List Int) (ks : List Nat) | cst (d : D) | exc (c : Nat) | blt
/-- where code stands: the names, the scope, which names may be stored; which slots stay; the global names -/
structure CC where
  N : List Str
  sc : Scope
  fnb : Str → Bool
  gi : Str → Option GI
  fx : Nat → Bool
  fb : Bool := false
/-- the last parameters are given by keywords, in their order -/
def KBok (K : PySem.W.Frag) (fd : FuncData) (ps : List Str) (n : Nat) : Prop :=
  ∀ (s : Shared) (us ws : List Value), K.In s.heap → us.length = n → n + ws.length = ps.length → BindsTo s fd ⟨us, (ps.drop n).zip ws⟩ (ps.zip (us ++ ws))
def GOk (X : Cx) (FA CA : Nat → Option Addr) (Φ : PhiT) (x : Str) : GI → Prop
  | .blt => X.mg x = none
  | .cst d => ∃ u v, X.mg x = some u ∧ RelV v u ∧ ∀ F, Rp X.K FA F v d
  | .exc c => ∃ C, CA c = some C ∧ X.mg x = some (.ref C) ∧ ∃ B newId initId bmB, PySem.ExcBaseFacts B newId initId bmB ∧ PySem.W.excIn X.K C bmB newId = true ∧ PySem.W.keepIn X.K (.ref C) = true ∧
      PySem.W.subIn X.K (.ref C) (.type "BaseException") = some true ∧ PySem.W.typeIn X.K (.ref C) = some (.type "type") ∧ ExcC X.K C ∧ PySem.W.kitOne X.K (.ref C) (.type "ValueError") = some true
  | .fn f ps dfl ks => ∃ k fa fd, Room k X.A ∧ X.mg x = some (.ref fa) ∧ PySem.W.keepIn X.K (.ref fa) = true ∧ FA f = some fa ∧ FnOk X.prog X.w X.K X.mg X.base (L2.CX X.prog X.w) k fa fd ps (spF X.K FA CA Φ f ps.length) ∧
      (∀ ss, ss.length ≠ ps.length → Φ f ss = .bad) ∧ ∀ n, n ≤ dfl.length → (∃ ds, Binds X.K fd ps ds ∧ Vals ((dfl.drop n).map V.int) ds) ∧ ∀ m ∈ ks, KBok X.K fd ps m
structure Ok (C : CC) (X : Cx) (W : WX) (Φ : PhiT) (FA CA : Nat → Option Addr) : Prop where
  N : X.N = C.N
  nd : C.N.Nodup
  sc : X.env.scope = C.sc
  calm : X.calm = true
  fnb : ∀ x, C.fnb x = true → X.fn x = true
  tk : Takes X W
  room : Room 1 X.A
  po : PassesOwn (model X.prog X.w) X.A X.env X.xe
  gi : ∀ x g, C.gi x = some g → GOk X FA CA Φ x g
  fb : C.fb = true → X.stack = X.env :: X.outer ∧ X.env.frame = some X.env.locals
  xx : ∀ c c' D D', CA c = some D → CA c' = some D' → PySem.W.subIn X.K (.ref D) (.ref D') = some (decide (c = c'))
  fa : ∀ f a, FA f = some a → ∃ ps k fd, Room k X.A ∧ PySem.W.keepIn X.K (.ref a) = true ∧ Binds X.K fd ps [] ∧ FnOk X.prog X.w X.K X.mg X.base (L2.CX X.prog X.w) k a fd ps (spF X.K FA CA Φ f ps.length) ∧ ∀ ss, ss.length ≠ ps.length → Φ f ss = .bad
theorem Ok.units {C : CC} {X : Cx} {W : WX} {Φ : PhiT} {FA CA : Nat → Option Addr} (O : Ok C X W Φ FA CA) : X.A.units + 65 < cLine := by
  have := O.room.un
  omega

def plainE : Expr → Bool
  | .Starred .. => false
  | .Set .. => false
  | _ => true
def plainIx : Expr → Bool
  | .Slice .. => false
  | _ => true
/-- its test is its value's truth -/
def plainT : Expr → Bool
  | .UnaryOp .Not _ _ => false
  | .BoolOp .. => false
  | .IfExp .. => false
  | .Compare .. => false
  | _ => true
theorem plain_star {e : Expr} (h : plainE e = true) (es : List Expr) (env : PySem.Env) : starEach (e :: es) env = (false, eval e env) :: starEach es env := by
  cases e <;> first | rfl | cases h
theorem plain_fold {e : Expr} (h : plainE e = true) (env : PySem.Env) (x : Value) : foldedSetIterable e env x = pure x := by
  cases e <;> first | rfl | cases h
theorem plain_beh {e : Expr} (h : plainE e = true) (op : CmpOp) : behindInMarks op e = false := by
  cases e <;> first | rfl | cases h
theorem plain_ix {e : Expr} (h : plainIx e = true) : PlainIx e := by
  intro o i
  cases e <;> first | rfl | cases h
theorem plain_t {e : Expr} (h : plainT e = true) (env : PySem.Env) (whole : Sem Value) : isTrue e env whole = (do let v ← whole; standAt e.pos; holding [v] (truthy v)) := by
  cases e <;> first | rfl | (cases h; done) | skip
  rename_i op _ _
  cases op <;> first | rfl | cases h

def SE (C : CC) (e : Expr) (c : E) : Prop := ∀ X W Φ FA CA, Ok C X W Φ FA CA → ∃ t, PE X e t ∧ RdE X.K FA CA W t (evE Φ c)
def SP (C : CC) (e : Expr) (c : P) : Prop := ∀ X W Φ FA CA, Ok C X W Φ FA CA → ∃ t, PE X e t ∧ RdP X.K FA CA W t (evP Φ c)
def ST (C : CC) (e : Expr) (c : T) : Prop := ∀ X W Φ FA CA, Ok C X W Φ FA CA → ∃ t, PT X e t ∧ RdT X.K FA CA W t (evT Φ c)
def SEs (C : CC) (es : List Expr) (c : Es) : Prop := ∀ X W Φ FA CA, Ok C X W Φ FA CA → ∃ t, PA X es t ∧ RdEs X.K FA CA W t (evEs Φ c)
def SA (C : CC) (es : List Expr) (c : A) : Prop := ∀ X W Φ FA CA, Ok C X W Φ FA CA → ∃ t, PA X es t ∧ RdA X.K FA CA W t (evA Φ c)

section
variable {C : CC} {e a b : Expr} {pos : Pos}
/-! ### names -/
def kindIs (sc : Scope) (x : Str) (k : NameKind) : Bool := sc.names.lookup x == some k
theorem kind_of {sc : Scope} {x : Str} {k : NameKind} (h : kindIs sc x k = true) : sc.names.lookup x = some k := by
  unfold kindIs at h
  simpa using h
/-- a name of the def at place i -/
def visB (C : CC) (x : Str) (i : Nat) : Bool :=
  decide (C.N[i]? = some x) && (kindIs C.sc x .local || kindIs C.sc x .cell || kindIs C.sc x .free) && !(x == ("__debug__" : Str)) && !(x == ("__classdict__" : Str))
theorem vis_of {x : Str} {i : Nat} (h : visB C x i = true) : C.N[i]? = some x ∧ Vis C.sc x ∧ (x == ("__debug__" : Str)) = false ∧ (x == ("__classdict__" : Str)) = false := by
  unfold visB at h
  simp only [Bool.and_eq_true, Bool.or_eq_true, decide_eq_true_eq, Bool.not_eq_true'] at h
  obtain ⟨⟨⟨h1, h2⟩, h3⟩, h4⟩ := h
  refine ⟨h1, ?_, h3, h4⟩
  rcases h2 with (h2 | h2) | h2
  · exact .inl (kind_of h2)
  · exact .inr (.inl (kind_of h2))
  · exact .inr (.inr (kind_of h2))
section
variable {X : Cx} {W : WX} {Φ : PhiT} {FA CA : Nat → Option Addr}
theorem pe_v {x : Str} {i : Nat} (O : Ok C X W Φ FA CA) (h : visB C x i = true) : PE X (.Name x pos) (tVar i) := by
  obtain ⟨h1, h2, h3, h4⟩ := vis_of h
  exact pe_var (by rw [O.N]; exact h1) (by rw [O.sc]; exact h2) h3 h4
end
theorem s_var {x : Str} {i : Nat} (h : visB C x i = true) : SE C (.Name x pos) (.var i) := fun X W Φ FA CA O => by
  refine ⟨_, pe_v O h, fun Z σ H ρ F Q S p => ?_⟩
  rw [evE] at p
  cases g : gt ρ i with
  | none =>
    rw [g] at p
    exact p.elim
  | some s =>
    rw [g] at p
    obtain ⟨x, ex, r⟩ := S.slot i s (gt_some.mp g)
    obtain ⟨F', e1, S1, h1⟩ := S.fz i
    exact ⟨x, ex, p H F' e1 S1 x (.v (h1 s x g ex))⟩
theorem s_mv {x : Str} {i : Nat} (h : visB C x i = true) : SE C (.Name x pos) (.mv i) := fun X W Φ FA CA O => by
  refine ⟨_, pe_v O h, fun Z σ H ρ F Q S p => ?_⟩
  rw [evE] at p
  cases g : gt ρ i with
  | none =>
    rw [g] at p
    exact p.elim
  | some s =>
    rw [g] at p
    cases s with
    | v d =>
      obtain ⟨x, ex, r⟩ := S.slot i _ (gt_some.mp g)
      exact ⟨x, ex, p.here S x (.v r)⟩
    | o d =>
      obtain ⟨x, ex, r⟩ := S.lentX (gt_some.mp g)
      exact ⟨x, ex, p.here (S.forget i) x r⟩
theorem s_pk {x : Str} {i : Nat} (h : visB C x i = true) : SP C (.Name x pos) (.pk i) := fun X W Φ FA CA O => by
  refine ⟨_, pe_v O h, fun Z σ H ρ F Q S p => ?_⟩
  rw [evP] at p
  exact rdp_pk Z σ H ρ F Q S p
theorem s_val {c : E} (h : SE C e c) : SP C e (.val c) := fun X W Φ FA CA O => by
  obtain ⟨t, h1, h2⟩ := h X W Φ FA CA O
  refine ⟨t, h1, fun Z σ H ρ F Q S p => ?_⟩
  rw [evP] at p
  exact h2.toP Z σ H ρ F Q S p
/-! ### constants -/
theorem s_cst {t : ∀ X : Cx, TE} {d : D} {v : V} (h : ∀ X : Cx, PE X e (tC v)) (r : ∀ K FA F, Rp K FA F v d) : SE C e (.cst d) := fun X W Φ FA CA O => by
  refine ⟨_, h X, fun Z σ H ρ F Q S p => ?_⟩
  rw [evE] at p
  exact p.here S v (.v (r _ _ _))
theorem s_int {i : Int} {j : Nat} : SE C (.Constant (.int i) j pos) (.cst (.int i)) := s_cst (t := fun _ => tC .non) (fun _ => pe_int) fun _ _ _ => .int i
theorem s_bl {b : Bool} {j : Nat} : SE C (.Constant (.bool b) j pos) (.cst (.bl b)) := s_cst (t := fun _ => tC .non) (fun _ => pe_bl) fun _ _ _ => .bl b
theorem s_non {j : Nat} : SE C (.Constant .none j pos) (.cst .non) := s_cst (t := fun _ => tC .non) (fun _ => pe_non) fun _ _ _ => .non
theorem s_str {x : Str} {j : Nat} (h : (x.cps.toList.all fun c => decide (c < 1114112)) = true) : SE C (.Constant (.str x) j pos) (.cst (.str x.cps.toList)) := s_cst (t := fun _ => tC .non) (fun _ => pe_str) fun K FA F => by
  have := Rp.str (K := K) (FA := FA) (H := F) x.cps.toList (fun c hc => by
    have := List.all_eq_true.mp h c hc
    simpa using this)
  exact this
theorem s_glob {x : Str} {d : D} (hk : kindIs C.sc x .globalImplicit = true) (hg : C.gi x = some (.cst d)) (hd : (x == ("__debug__" : Str)) = false) : SE C (.Name x pos) (.cst d) := fun X W Φ FA CA O => by
  obtain ⟨u, v, hm, r, rp⟩ := O.gi x _ hg
  refine ⟨_, pe_glob (by unfold Gl; show X.env.scope.names.lookup x = _; rw [O.sc]; exact kind_of hk) hm r hd, fun Z σ H ρ F Q S p => ?_⟩
  rw [evE] at p
  exact p.here S v (.v (rp F))
/-- a def as a value -/
theorem s_fnv {x : Str} {f : Nat} {ps : List Str} {dfl : List Int} {ks : List Nat} (hk : kindIs C.sc x .globalImplicit = true) (hg : C.gi x = some (.fn f ps dfl ks)) (hd : (x == ("__debug__" : Str)) = false) : SE C (.Name x pos) (.cst (.fn f)) := fun X W Φ FA CA O => by
  obtain ⟨k, fa, fd, _, hm, _, hf, _⟩ := O.gi x _ hg
  refine ⟨_, pe_glob (v := .ref fa) (by unfold Gl; show X.env.scope.names.lookup x = _; rw [O.sc]; exact kind_of hk) hm rfl hd, fun Z σ H ρ F Q S p => ?_⟩
  rw [evE] at p
  exact p.here S _ (.v (.fn f hf))
/-! ### operators -/
theorem bind3 {α : Type} {x y : Option D} {g : D → D → Option α} {s : α} (h : (x.bind fun x => y.bind fun y => g x y) = some s) : ∃ a b, x = some a ∧ y = some b ∧ g a b = some s := by
  cases x with
  | none => cases h
  | some a =>
    cases y with
    | none => cases h
    | some b => exact ⟨a, b, rfl, rfl, h⟩
theorem bind2 {α : Type} {x : Option D} {g : D → Option α} {s : α} (h : (x.bind fun x => g x) = some s) : ∃ a, x = some a ∧ g a = some s := by
  cases x with
  | none => cases h
  | some a => exact ⟨a, rfl, h⟩
/-- two operands, one after another -/
theorem two {K : PySem.W.Frag} {FA CA : Nat → Option Addr} {W : WX} {ta tb : TE} {ca cb : Env → R (Nat ⊕ D)} (ha : RdP K FA CA W ta ca) (hb : RdP K FA CA W tb cb) {α : Type} {g : D → D → Option α} {Z : Addr → Prop} {σ : St} {H F : Hp} {ρ : Env} {R : V → V → Hp → Prop} {k : α → Hp → Env → Hp → Prop}
    (S : SR K FA Z σ H ρ F) (p : Po K FA CA W Z σ H F ((ca ρ).bind fun x ρ => (cb ρ).bind fun y ρ => ofO ((rs ρ x).bind fun x => (rs ρ y).bind fun y => g x y) ρ) k)
    (h : ∀ H2 ρ2 F2 x y a b s, SR K FA Z σ H2 ρ2 F2 → RQ K FA F2 H2 x a → RQ K FA F2 H2 y b → g a b = some s → (Po K FA CA W Z σ H2 F2 (.ok s ρ2) k) → R x y H2) : ta σ H fun x H1 => tb σ H1 fun y H2 => R x y H2 := by
  refine ha Z σ H ρ F _ S (p.bind.imp fun q1 H1 ρ1 F1 e1 S1 k1 x1 r1 => ?_)
  refine hb Z σ H1 ρ1 F1 _ S1 (k1.bind.imp fun q2 H2 ρ2 F2 e2 S2 k2 x2 r2 => ?_)
  obtain ⟨s, es, k3⟩ := k2.ofO
  obtain ⟨a, b, h1, h2, h3⟩ := bind3 es
  exact h H2 ρ2 F2 x1 x2 a b s S2 ((r1.mono e2.sub).rs S2 h1) (r2.rs S2 h2) h3 k3
theorem s_bin {op : Operator} {bop : Bop} {pa pb : P} (ho : ∀ X FA, OpD X FA (binaryOp op) (binD bop)) (ha : SP C a pa) (hb : SP C b pb) : SE C (.BinOp a op b pos) (.bin bop pa pb) := fun X W Φ FA CA O => by
  obtain ⟨ta, ha1, ha2⟩ := ha X W Φ FA CA O
  obtain ⟨tb, hb1, hb2⟩ := hb X W Φ FA CA O
  obtain ⟨r, hr, hq⟩ := ho X FA
  refine ⟨_, pe_op hr ha1 hb1, fun Z σ H ρ F Q S p => ?_⟩
  rw [evE] at p
  exact two ha2 hb2 S p fun H2 ρ2 F2 x y a b s S2 rx ry es k => hq Z σ H2 ρ2 F2 x y a b s Q S2 rx ry es fun v H' F' e' S' R' => k H' F' e' S' v R'
/-- a comparison, as a value and as a test -/
def cmpOk (op : CmpOp) (cop : Cop) : Prop := ∀ X FA, X.A.units + 65 < cLine → OpD X FA (compareOp op) (cmpS cop)
theorem s_cmp {op : CmpOp} {cop : Cop} {pa pb : P} (ho : cmpOk op cop) (ha : SP C a pa) (hb : SP C b pb) (hm : plainE b = true) : SE C (.Compare a [op] [b] pos) (.tst (.cmp cop pa pb)) := fun X W Φ FA CA O => by
  obtain ⟨ta, ha1, ha2⟩ := ha X W Φ FA CA O
  obtain ⟨tb, hb1, hb2⟩ := hb X W Φ FA CA O
  obtain ⟨r, hr, hq⟩ := ho X FA O.units
  refine ⟨_, pe_cmpR hr ha1 hb1 (plain_beh hm op), fun Z σ H ρ F Q S p => ?_⟩
  rw [evE, evT] at p
  refine two ha2 hb2 (g := cmpD cop) (k := fun b H' ρ' F' => Q (.bl b) H') S (p.bind.imp fun b H' ρ' F' e' S' k => k.here S' _ (.v (.bl b))) fun H2 ρ2 F2 x y a b s S2 rx ry es k => ?_
  exact hq Z σ H2 ρ2 F2 x y a b (.v (.bl s)) Q S2 rx ry (by unfold cmpS; rw [es]; rfl) fun v H' F' e' S' R' => by
    have := k H' F' e' S'
    have hv : v = .bl s := by
      have q : Rp X.K FA F' v (.bl s) := R'.1
      cases q
      rfl
    rw [hv]
    exact this
theorem t_cmp {op : CmpOp} {cop : Cop} {pa pb : P} (ho : cmpOk op cop) (ha : SP C a pa) (hb : SP C b pb) (hm : plainE b = true) : ST C (.Compare a [op] [b] pos) (.cmp cop pa pb) := fun X W Φ FA CA O => by
  obtain ⟨ta, ha1, ha2⟩ := ha X W Φ FA CA O
  obtain ⟨tb, hb1, hb2⟩ := hb X W Φ FA CA O
  obtain ⟨r, hr, hq⟩ := ho X FA O.units
  refine ⟨_, pt_cmpR hr ha1 hb1 (plain_beh hm op), fun Z σ H ρ F Q S p => ?_⟩
  rw [evT] at p
  refine two ha2 hb2 S p fun H2 ρ2 F2 x y a b s S2 rx ry es k => ?_
  exact hq Z σ H2 ρ2 F2 x y a b (.v (.bl s)) _ S2 rx ry (by unfold cmpS; rw [es]; rfl) fun v H' F' e' S' R' => by
    have hv : v = .bl s := by
      have q : Rp X.K FA F' v (.bl s) := R'.1
      cases q
      rfl
    rw [hv]
    exact ⟨s, rfl, k H' F' e' S'⟩
theorem ok_eq : cmpOk .Eq .eq := fun X FA h => opD_eq (by omega)
theorem ok_ne : cmpOk .NotEq .ne := fun X FA h => opD_ne (by omega)
theorem ok_lt : cmpOk .Lt .lt := fun X FA h => opD_lt h
theorem ok_le : cmpOk .LtE .le := fun X FA _ => opD_le
theorem ok_gt : cmpOk .Gt .gt := fun X FA _ => opD_gt
theorem ok_ge : cmpOk .GtE .ge := fun X FA _ => opD_ge
/-- one operand -/
theorem one {K : PySem.W.Frag} {FA CA : Nat → Option Addr} {W : WX} {ta : TE} {ca : Env → R (Nat ⊕ D)} (ha : RdP K FA CA W ta ca) {α : Type} {g : D → Option α} {Z : Addr → Prop} {σ : St} {H F : Hp} {ρ : Env} {R : V → Hp → Prop} {k : α → Hp → Env → Hp → Prop}
    (S : SR K FA Z σ H ρ F) (p : Po K FA CA W Z σ H F ((ca ρ).bind fun x ρ => ofO ((rs ρ x).bind fun x => g x) ρ) k)
    (h : ∀ H2 ρ2 F2 x a s, SR K FA Z σ H2 ρ2 F2 → RQ K FA F2 H2 x a → g a = some s → (Po K FA CA W Z σ H2 F2 (.ok s ρ2) k) → R x H2) : ta σ H fun x H1 => R x H1 := by
  refine ha Z σ H ρ F _ S (p.bind.imp fun q1 H1 ρ1 F1 e1 S1 k1 x1 r1 => ?_)
  obtain ⟨s, es, k3⟩ := k1.ofO
  obtain ⟨a, h1, h3⟩ := bind2 es
  exact h H1 ρ1 F1 x1 a s S1 (r1.rs S1 h1) h3 k3
theorem s_neg {c : E} (ha : SE C a c) : SE C (.UnaryOp .USub a pos) (.neg c) := fun X W Φ FA CA O => by
  obtain ⟨ta, ha1, ha2⟩ := ha X W Φ FA CA O
  refine ⟨_, pe_un un_neg ha1, fun Z σ H ρ F Q S p => ?_⟩
  rw [evE] at p
  refine ha2.toV Z σ H ρ F _ S (p.bind.imp fun s H1 ρ1 F1 e1 S1 k1 x1 r1 => ?_)
  obtain ⟨s', es, k3⟩ := k1.ofO
  obtain ⟨i, hi, rfl⟩ := Option.map_eq_some_iff.mp es
  cases hd : s.d with
  | int j =>
    rw [hd] at hi r1
    cases hi
    cases r1
    exact ⟨_, rfl, k3.here S1 _ (.v (.int _))⟩
  | _ => rw [hd] at hi; cases hi
/-! ### truth -/
theorem tru_of {K : PySem.W.Frag} {FA : Nat → Option Addr} {F H : Hp} {x : V} {d : D} {k : Bool} (S : Sub F H) (r : RQ K FA F H x d) (h : tru d = some k) : TruV K x H k := by
  cases d with
  | non =>
    rw [r.non]
    cases h
    rfl
  | bl b =>
    rw [r.bl]
    cases h
    rfl
  | int i =>
    rw [r.int]
    cases h
    rfl
  | str s =>
    rw [r.str.1]
    have h : (if s.length ≤ SZ then some (!s.isEmpty) else none) = some k := h
    by_cases hs : s.length ≤ SZ
    · rw [if_pos hs] at h
      cases h
      refine ⟨by rw [str_len, ← SZ_eq]; exact hs, ?_⟩
      rw [str_len]
      cases s with
      | nil => rfl
      | cons c s' =>
        have e0 : (((c :: s').length : Nat) : Int) ≠ 0 := by
          rw [List.length_cons]
          omega
        show (!(c :: s').isEmpty) = ((((c :: s').length : Nat) : Int) != 0)
        rw [bne_iff_ne.mpr e0]
        rfl
    · rw [if_neg hs] at h
      cases h
  | tup ds =>
    obtain ⟨a, xs, rfl, h1, h2⟩ := r.tup S
    cases h
    refine .inr (.inl ⟨xs, h1, ?_⟩)
    have := h2.length
    cases xs <;> cases ds <;> simp_all
  | lst ds =>
    obtain ⟨a, xs, rfl, h1, h2⟩ := r.lst S
    cases h
    refine .inl ⟨xs, .inl (.inl h1), ?_⟩
    have := h2.length
    cases xs <;> cases ds <;> simp_all
  | scr _ => cases h
  | fn _ => cases h
  | dic _ => cases h
theorem t_tr {c : P} (ha : SP C a c) (ht : plainT a = true) : ST C a (.tr c) := fun X W Φ FA CA O => by
  obtain ⟨ta, ha1, ha2⟩ := ha X W Φ FA CA O
  refine ⟨_, pt_truth ha1 (plain_t ht X.env), fun Z σ H ρ F Q S p => ?_⟩
  rw [evT] at p
  exact one ha2 S p fun H2 ρ2 F2 x a s S2 rx es k => ⟨s, tru_of S2.sub rx es, k.here S2⟩
theorem t_not {c : T} (ha : ST C a c) : ST C (.UnaryOp .Not a pos) (.not c) := fun X W Φ FA CA O => by
  obtain ⟨ta, ha1, ha2⟩ := ha X W Φ FA CA O
  refine ⟨_, pt_not ha1, fun Z σ H ρ F Q S p => ?_⟩
  rw [evT] at p
  exact ha2 Z σ H ρ F _ S (p.bind.imp fun b H' ρ' F' e' S' k => k.here S')
theorem s_not {c : P} (ha : SP C a c) : SE C (.UnaryOp .Not a pos) (.tst (.not (.tr c))) := fun X W Φ FA CA O => by
  obtain ⟨ta, ha1, ha2⟩ := ha X W Φ FA CA O
  refine ⟨_, pe_notT ha1, fun Z σ H ρ F Q S p => ?_⟩
  rw [evE, evT, evT] at p
  exact one ha2 (g := tru) (k := fun b H' ρ' F' => Q (.bl (!b)) H') S (p.bind.bind.imp fun b H' ρ' F' e' S' k => (k.here S').here S' _ (.v (.bl _))) fun H2 ρ2 F2 x a s S2 rx es k => ⟨s, tru_of S2.sub rx es, k.here S2⟩
/-- and, or as tests, whatever the whole is -/
def STw (C : CC) (e : Expr) (c : T) : Prop := ∀ X W Φ FA CA, Ok C X W Φ FA CA → ∃ t, PW X e t ∧ RdT X.K FA CA W t (evT Φ c)
theorem STw.st {c : T} (h : STw C e c) : ST C e c := fun X W Φ FA CA O => by
  obtain ⟨t, h1, h2⟩ := h X W Φ FA CA O
  exact ⟨t, h1.pt, h2⟩
theorem tw_one {op : BoolOp} {c : T} (h : ST C a c) : STw C (.BoolOp op [a] pos) c := fun X W Φ FA CA O => by
  obtain ⟨t, h1, h2⟩ := h X W Φ FA CA O
  cases op
  · exact ⟨t, pw_and1 h1, h2⟩
  · exact ⟨t, pw_or1 h1, h2⟩
theorem tw_and {rest : List Expr} {c d : T} (ha : ST C a c) (hb : STw C (.BoolOp .And (b :: rest) pos) d) : STw C (.BoolOp .And (a :: b :: rest) pos) (.and2 c d) := fun X W Φ FA CA O => by
  obtain ⟨ta, ha1, ha2⟩ := ha X W Φ FA CA O
  obtain ⟨tb, hb1, hb2⟩ := hb X W Φ FA CA O
  refine ⟨_, pw_and ha1 hb1, fun Z σ H ρ F Q S p => ?_⟩
  rw [evT] at p
  refine ha2 Z σ H ρ F _ S (p.bind.imp fun b H' ρ' F' e' S' k => ?_)
  cases b with
  | true => exact hb2 Z σ H' ρ' F' Q S' k
  | false => exact k.here S'
theorem tw_or {rest : List Expr} {c d : T} (ha : ST C a c) (hb : STw C (.BoolOp .Or (b :: rest) pos) d) : STw C (.BoolOp .Or (a :: b :: rest) pos) (.or2 c d) := fun X W Φ FA CA O => by
  obtain ⟨ta, ha1, ha2⟩ := ha X W Φ FA CA O
  obtain ⟨tb, hb1, hb2⟩ := hb X W Φ FA CA O
  refine ⟨_, pw_or ha1 hb1, fun Z σ H ρ F Q S p => ?_⟩
  rw [evT] at p
  refine ha2 Z σ H ρ F _ S (p.bind.imp fun b H' ρ' F' e' S' k => ?_)
  cases b with
  | true => exact k.here S'
  | false => exact hb2 Z σ H' ρ' F' Q S' k
/-- and, or as values -/
theorem s_one {op : BoolOp} {c : E} (h : SE C a c) : SE C (.BoolOp op [a] pos) c := fun X W Φ FA CA O => by
  obtain ⟨t, h1, h2⟩ := h X W Φ FA CA O
  exact ⟨t, pe_one h1, h2⟩
theorem RX.rq {K : PySem.W.Frag} {FA : Nat → Option Addr} {Z : Addr → Prop} {σ : St} {ρ : Env} {F H : Hp} {x : V} {s : Sl} (r : RX K FA Z σ ρ F H x s) : RQ K FA F H x s.d := by
  cases s with
  | v d => exact .inl r.1
  | o d =>
    obtain ⟨a, xs, ds, rfl, rfl, n, h1, h2⟩ := own_lst r.1
    exact .inr ⟨a, xs, ds, rfl, rfl, h1, h2⟩
theorem s_and {rest : List Expr} {c d : E} (ha : SE C a c) (hb : SE C (.BoolOp .And (b :: rest) pos) d) : SE C (.BoolOp .And (a :: b :: rest) pos) (.and2 c d) := fun X W Φ FA CA O => by
  obtain ⟨ta, ha1, ha2⟩ := ha X W Φ FA CA O
  obtain ⟨tb, hb1, hb2⟩ := hb X W Φ FA CA O
  refine ⟨_, pe_andT ha1 hb1, fun Z σ H ρ F Q S p => ?_⟩
  rw [evE] at p
  refine ha2 Z σ H ρ F _ S (p.bind.imp fun s H' ρ' F' e' S' k x r => ?_)
  cases ht : tru s.d with
  | none =>
    rw [ht] at k
    exact k.elim
  | some b =>
    rw [ht] at k
    refine ⟨b, tru_of S'.sub r.rq ht, ?_⟩
    cases b with
    | true => exact hb2 Z σ H' ρ' F' Q S' k
    | false => exact k.here S' x r
theorem s_or {rest : List Expr} {c d : E} (ha : SE C a c) (hb : SE C (.BoolOp .Or (b :: rest) pos) d) : SE C (.BoolOp .Or (a :: b :: rest) pos) (.or2 c d) := fun X W Φ FA CA O => by
  obtain ⟨ta, ha1, ha2⟩ := ha X W Φ FA CA O
  obtain ⟨tb, hb1, hb2⟩ := hb X W Φ FA CA O
  refine ⟨_, pe_orT ha1 hb1, fun Z σ H ρ F Q S p => ?_⟩
  rw [evE] at p
  refine ha2 Z σ H ρ F _ S (p.bind.imp fun s H' ρ' F' e' S' k x r => ?_)
  cases ht : tru s.d with
  | none =>
    rw [ht] at k
    exact k.elim
  | some b =>
    rw [ht] at k
    refine ⟨b, tru_of S'.sub r.rq ht, ?_⟩
    cases b with
    | true => exact k.here S' x r
    | false => exact hb2 Z σ H' ρ' F' Q S' k
theorem s_ite {t : Expr} {ct : T} {c d : E} (ht : ST C t ct) (ha : SE C a c) (hb : SE C b d) : SE C (.IfExp t a b pos) (.ite ct c d) := fun X W Φ FA CA O => by
  obtain ⟨tt, ht1, ht2⟩ := ht X W Φ FA CA O
  obtain ⟨ta, ha1, ha2⟩ := ha X W Φ FA CA O
  obtain ⟨tb, hb1, hb2⟩ := hb X W Φ FA CA O
  refine ⟨_, pe_ifExp ht1 ha1 hb1, fun Z σ H ρ F Q S p => ?_⟩
  rw [evE] at p
  refine ht2 Z σ H ρ F _ S (p.bind.imp fun b H' ρ' F' e' S' k => ?_)
  cases b with
  | true => exact ha2 Z σ H' ρ' F' Q S' k
  | false => exact hb2 Z σ H' ρ' F' Q S' k
/-! ### displays, arguments -/
theorem es_nil : SEs C [] .nil := fun X W Φ FA CA O => ⟨_, pa_nil, fun Z σ H ρ F Q S p => by
  rw [evEs] at p
  exact p.here S [] .nil⟩
theorem es_cons {es : List Expr} {c : E} {cs : Es} (ha : SE C a c) (hs : SEs C es cs) (hp : plainE a = true) : SEs C (a :: es) (.cons c cs) := fun X W Φ FA CA O => by
  obtain ⟨ta, ha1, ha2⟩ := ha X W Φ FA CA O
  obtain ⟨tb, hb1, hb2⟩ := hs X W Φ FA CA O
  refine ⟨_, pa_cons ha1 hb1 (plain_star hp es X.env), fun Z σ H ρ F Q S p => ?_⟩
  rw [evEs] at p
  refine ha2.toV Z σ H ρ F _ S (p.bind.imp fun s H1 ρ1 F1 e1 S1 k1 x1 r1 => ?_)
  refine hb2 Z σ H1 ρ1 F1 _ S1 (k1.bind.imp fun ds H2 ρ2 F2 e2 S2 k2 xs r2 => ?_)
  exact k2.here S2 _ (.cons (r1.mono e2.sub) r2)
theorem a_nil : SA C [] .nil := fun X W Φ FA CA O => ⟨_, pa_nil, fun Z σ H ρ F Q S p => by
  rw [evA] at p
  exact p.here S [] .nil⟩
theorem a_val {es : List Expr} {c : E} {cs : A} (ha : SE C a c) (hs : SA C es cs) (hp : plainE a = true) : SA C (a :: es) (.val c cs) := fun X W Φ FA CA O => by
  obtain ⟨ta, ha1, ha2⟩ := ha X W Φ FA CA O
  obtain ⟨tb, hb1, hb2⟩ := hs X W Φ FA CA O
  refine ⟨_, pa_cons ha1 hb1 (plain_star hp es X.env), fun Z σ H ρ F Q S p => ?_⟩
  rw [evA] at p
  refine ha2.toV Z σ H ρ F _ S (p.bind.imp fun s H1 ρ1 F1 e1 S1 k1 x1 r1 => ?_)
  refine hb2 Z σ H1 ρ1 F1 _ S1 (k1.bind.imp fun ds H2 ρ2 F2 e2 S2 k2 xs r2 => ?_)
  exact k2.here S2 _ (.cons (r1.mono e2.sub) r2)
theorem a_ref {es : List Expr} {x : Str} {i : Nat} {cs : A} (h : visB C x i = true) (hs : SA C es cs) : SA C (.Name x pos :: es) (.ref i cs) := fun X W Φ FA CA O => by
  obtain ⟨tb, hb1, hb2⟩ := hs X W Φ FA CA O
  refine ⟨_, pa_cons (pe_v O h) hb1 rfl, fun Z σ H ρ F Q S p => ?_⟩
  rw [evA] at p
  cases g : gt ρ i with
  | none =>
    rw [g] at p
    exact p.elim
  | some s =>
    rw [g] at p
    simp only [Option.isSome_some, if_true] at p
    obtain ⟨x, ex, r⟩ := S.slot i s (gt_some.mp g)
    refine ⟨x, ex, ?_⟩
    refine hb2 Z σ H ρ F _ S (p.bind.imp fun ds H2 ρ2 F2 e2 S2 k2 xs r2 => ?_)
    exact k2.here S2 _ (.cons ex r2)
theorem s_tup {es : List Expr} {c : Es} {j : Nat} (h : SEs C es c) : SE C (.Tuple es j pos) (.tup c) := fun X W Φ FA CA O => by
  obtain ⟨t, h1, h2⟩ := h X W Φ FA CA O
  refine ⟨_, pe_tup h1, fun Z σ H ρ F Q S p => ?_⟩
  rw [evE] at p
  refine h2 Z σ H ρ F _ S (p.bind.imp fun ds H1 ρ1 F1 e1 S1 k1 xs r1 => ?_)
  by_cases hz : ds.length ≤ SZ
  · rw [if_pos hz] at k1
    refine ⟨by rw [r1.length, ← SZ_eq]; exact hz, res_tup S1 r1 fun x H' F' e' S' R' => k1 H' F' e' S' x R'⟩
  · rw [if_neg hz] at k1
    exact k1.elim
theorem s_lst {es : List Expr} {c : Es} (h : SEs C es c) : SE C (.List es pos) (.lst c) := fun X W Φ FA CA O => by
  obtain ⟨t, h1, h2⟩ := h X W Φ FA CA O
  refine ⟨_, pe_lst h1, fun Z σ H ρ F Q S p => ?_⟩
  rw [evE] at p
  refine h2 Z σ H ρ F _ S (p.bind.imp fun ds H1 ρ1 F1 e1 S1 k1 xs r1 => ?_)
  by_cases hz : ds.length ≤ SZ
  · rw [if_pos hz] at k1
    refine ⟨by rw [r1.length, ← SZ_eq]; exact hz, res_lst S1 r1 fun x H' F' e' S' R' => k1 H' F' e' S' x R'⟩
  · rw [if_neg hz] at k1
    exact k1.elim
end
end Rf

set_option maxHeartbeats 1000000
/-! Rf6: subscripts, built-in functions, calls. -/
namespace Rf
open PySem PySem.Spec L2
section
variable {C : CC} {e a b : Expr} {pos : Pos}
/-! ### is None -/
theorem non_iff {K : PySem.W.Frag} {FA : Nat → Option Addr} {F H : Hp} {x : V} {d : D} (S : Sub F H) (r : RQ K FA F H x d) : decide (x = .non) = isNon d := by
  have q := r.rp S
  cases q <;> rfl
theorem s_isN {j : Nat} {pos' : Pos} {c : P} (ha : SP C a c) : SE C (.Compare a [.Is] [.Constant .none j pos'] pos) (.tst (.isN c)) := fun X W Φ FA CA O => by
  obtain ⟨ta, ha1, ha2⟩ := ha X W Φ FA CA O
  refine ⟨_, pe_cmp (pc_isN ha1), fun Z σ H ρ F Q S p => ?_⟩
  rw [evE, evT] at p
  refine ha2 Z σ H ρ F _ S (p.bind.bind.imp fun q1 H1 ρ1 F1 e1 S1 k1 x1 r1 => ?_)
  obtain ⟨s, es, k3⟩ := k1.ofO
  obtain ⟨d, hd, rfl⟩ := Option.map_eq_some_iff.mp es
  rw [non_iff S1.sub (r1.rs S1 hd)]
  exact (k3.here S1).here S1 _ (.v (.bl _))
theorem t_isN {j : Nat} {pos' : Pos} {c : P} (ha : SP C a c) : ST C (.Compare a [.Is] [.Constant .none j pos'] pos) (.isN c) := fun X W Φ FA CA O => by
  obtain ⟨ta, ha1, ha2⟩ := ha X W Φ FA CA O
  refine ⟨_, pt_cmp (pc_isN ha1), fun Z σ H ρ F Q S p => ?_⟩
  rw [evT] at p
  refine ha2 Z σ H ρ F _ S (p.bind.imp fun q1 H1 ρ1 F1 e1 S1 k1 x1 r1 => ?_)
  obtain ⟨s, es, k3⟩ := k1.ofO
  obtain ⟨d, hd, rfl⟩ := Option.map_eq_some_iff.mp es
  exact ⟨_, rfl, by rw [non_iff S1.sub (r1.rs S1 hd)]; exact k3.here S1⟩
theorem s_notN {j : Nat} {pos' : Pos} {c : P} (ha : SP C a c) : SE C (.Compare a [.IsNot] [.Constant .none j pos'] pos) (.tst (.not (.isN c))) := fun X W Φ FA CA O => by
  obtain ⟨ta, ha1, ha2⟩ := ha X W Φ FA CA O
  refine ⟨_, pe_cmp (pc_notN ha1), fun Z σ H ρ F Q S p => ?_⟩
  rw [evE, evT, evT] at p
  refine ha2 Z σ H ρ F _ S (p.bind.bind.bind.imp fun q1 H1 ρ1 F1 e1 S1 k1 x1 r1 => ?_)
  obtain ⟨s, es, k3⟩ := k1.ofO
  obtain ⟨d, hd, rfl⟩ := Option.map_eq_some_iff.mp es
  rw [non_iff S1.sub (r1.rs S1 hd)]
  exact ((k3.here S1).here S1).here S1 _ (.v (.bl _))
theorem t_notN {j : Nat} {pos' : Pos} {c : P} (ha : SP C a c) : ST C (.Compare a [.IsNot] [.Constant .none j pos'] pos) (.not (.isN c)) := fun X W Φ FA CA O => by
  obtain ⟨ta, ha1, ha2⟩ := ha X W Φ FA CA O
  refine ⟨_, pt_cmp (pc_notN ha1), fun Z σ H ρ F Q S p => ?_⟩
  rw [evT, evT] at p
  refine ha2 Z σ H ρ F _ S (p.bind.bind.imp fun q1 H1 ρ1 F1 e1 S1 k1 x1 r1 => ?_)
  obtain ⟨s, es, k3⟩ := k1.ofO
  obtain ⟨d, hd, rfl⟩ := Option.map_eq_some_iff.mp es
  exact ⟨_, rfl, by rw [non_iff S1.sub (r1.rs S1 hd)]; exact (k3.here S1).here S1⟩
/-! ### subscripts -/
theorem ixN_eq (n : Nat) (i : Int) : L2.ixN n i = Rf.ixN n i := rfl
theorem atI_rel {K : PySem.W.Frag} {FA : Nat → Option Addr} {F : Hp} {xs : List V} {ds : List D} {i : Int} {d : D} (r : Rps K FA F xs ds) (h : Rf.atI ds i = some d) : ∃ v, L2.atI xs i = some v ∧ Rp K FA F v d := by
  unfold Rf.atI at h
  unfold L2.atI
  rw [r.length, ixN_eq]
  cases q : Rf.ixN ds.length i with
  | none =>
    rw [q] at h
    cases h
  | some j =>
    rw [q] at h
    exact r.get h
theorem s_ix {pa pb : P} (ha : SP C a pa) (hb : SP C b pb) (hs : plainIx b = true) : SE C (.Subscript a b pos) (.ix pa pb) := fun X W Φ FA CA O => by
  obtain ⟨ta, ha1, ha2⟩ := ha X W Φ FA CA O
  obtain ⟨tb, hb1, hb2⟩ := hb X W Φ FA CA O
  refine ⟨_, pe_ix ix_seq ha1 hb1 (plain_ix hs), fun Z σ H ρ F Q S p => ?_⟩
  rw [evE] at p
  refine two ha2 hb2 (g := fun x y => (ixD x y).map Sl.v) (k := fun s H' ρ' F' => ∀ x, RX X.K FA Z σ ρ' F' H' x s → Q x H') S p fun H2 ρ2 F2 x y a b s S2 rx ry es k => ?_
  obtain ⟨d, hd, rfl⟩ := Option.map_eq_some_iff.mp es
  have fin : ∀ v, Rp X.K FA F2 v d → Q v H2 := fun v r => k.here S2 v (.v r)
  cases a with
  | tup ds =>
    cases b with
    | int i =>
      obtain ⟨p1, xs, rfl, h1, r1⟩ := rx.tup S2.sub
      obtain ⟨v, hv, rv⟩ := atI_rel r1 hd
      exact .inr (.inl ⟨p1, xs, i, v, rfl, ry.int, h1, hv, fin v rv⟩)
    | _ => cases hd
  | lst ds =>
    cases b with
    | int i =>
      obtain ⟨p1, xs, rfl, h1, r1⟩ := rx.lst S2.sub
      obtain ⟨v, hv, rv⟩ := atI_rel r1 hd
      exact .inl ⟨p1, xs, i, v, rfl, ry.int, .inl (.inl h1), hv, fin v rv⟩
    | _ => cases hd
  | scr ds =>
    cases b with
    | int i =>
      obtain ⟨p1, xs, rfl, h1, r1⟩ := rx.scr S2.sub
      obtain ⟨v, hv, rv⟩ := atI_rel r1 hd
      exact .inl ⟨p1, xs, i, v, rfl, ry.int, h1, hv, fin v rv⟩
    | _ => cases hd
  | str z =>
    cases b with
    | int i =>
      have hd : (if z.length ≤ SZ then (Rf.atI z i).map fun c => D.str [c] else none) = some d := hd
      by_cases hz : z.length ≤ SZ
      · rw [if_pos hz] at hd
        obtain ⟨c, hc, rfl⟩ := Option.map_eq_some_iff.mp hd
        obtain ⟨e1, v1⟩ := rx.str
        refine .inr (.inr ⟨_, i, c, e1, ry.int, by rw [str_len, ← SZ_eq]; exact hz, hc, fin _ (.str [c] fun c' hc' => ?_)⟩)
        have : c ∈ z := by
          unfold Rf.atI at hc
          cases q : Rf.ixN z.length i with
          | none =>
            rw [q] at hc
            cases hc
          | some j =>
            rw [q] at hc
            exact List.mem_of_getElem? hc
        rw [List.mem_singleton.mp hc']
        exact v1 c this
      · rw [if_neg hz] at hd
        cases hd
    | _ => cases hd
  | _ => cases hd
/-! ### slices -/
def SO (C : CC) (e : Option Expr) (c : Option E) : Prop := ∀ X W Φ FA CA, Ok C X W Φ FA CA → ∃ t : TO, PO X e t ∧
  ∀ Z σ H ρ F (Q : Option Int → Hp → Prop), SR X.K FA Z σ H ρ F → Po X.K FA CA W Z σ H F (evOI Φ c ρ) (fun o H' _ _ => Q o H') → t σ H Q
theorem o_none : SO C none none := fun X W Φ FA CA O => ⟨_, po_none, fun Z σ H ρ F Q S p => by
  rw [evOI] at p
  exact p.here S⟩
theorem o_some {c : E} (h : SE C e c) : SO C (some e) (some c) := fun X W Φ FA CA O => by
  obtain ⟨t, h1, h2⟩ := h X W Φ FA CA O
  refine ⟨_, po_some h1, fun Z σ H ρ F Q S p => ?_⟩
  rw [evOI] at p
  refine h2.toV Z σ H ρ F _ S (p.bind.imp fun s H1 ρ1 F1 e1 S1 k1 x1 r1 => ?_)
  obtain ⟨o, es, k3⟩ := k1.ofO
  obtain ⟨i, hi, rfl⟩ := Option.map_eq_some_iff.mp es
  cases hd : s.d with
  | int j =>
    rw [hd] at hi r1
    cases hi
    cases r1
    exact ⟨_, rfl, k3.here S1⟩
  | _ => rw [hd] at hi; cases hi
theorem sIx_eq (n d : Nat) (o : Option Int) : HT.sIx n d o = Rf.sIx n d o := by
  cases o <;> rfl
theorem cut_rel {K : PySem.W.Frag} {FA : Nat → Option Addr} {F : Hp} {xs : List V} {ds : List D} {lo hi : Option Int} (r : Rps K FA F xs ds) : Rps K FA F (cutV xs lo hi) (cut ds lo hi) := by
  unfold cutV cut
  rw [sIx_eq, sIx_eq, r.length]
  exact (r.drop _).take _
theorem s_slc {lo hi : Option Expr} {p2 : Pos} {pa : P} {cl ch : Option E} (ha : SP C a pa) (hl : SO C lo cl) (hh : SO C hi ch) : SE C (.Subscript a (.Slice lo hi none p2) pos) (.slc pa cl ch) := fun X W Φ FA CA O => by
  obtain ⟨ta, ha1, ha2⟩ := ha X W Φ FA CA O
  obtain ⟨tl, hl1, hl2⟩ := hl X W Φ FA CA O
  obtain ⟨th, hh1, hh2⟩ := hh X W Φ FA CA O
  refine ⟨_, pe_slice (sl_list.or (sl_tupA.or sl_str)) ha1 hl1 hh1, fun Z σ H ρ F Q S p => ?_⟩
  rw [evE] at p
  refine ha2 Z σ H ρ F _ S (p.bind.imp fun q1 H1 ρ1 F1 e1 S1 k1 x1 r1 => ?_)
  refine hl2 Z σ H1 ρ1 F1 _ S1 (k1.bind.imp fun l H2 ρ2 F2 e2 S2 k2 => ?_)
  refine hh2 Z σ H2 ρ2 F2 _ S2 (k2.bind.imp fun h H3 ρ3 F3 e3 S3 k3 => ?_)
  obtain ⟨s, es, k4⟩ := k3.ofO
  obtain ⟨d, h1, h3⟩ := bind2 es
  have rx := ((r1.mono e2.sub).mono e3.sub).rs S3 h1
  cases d with
  | tup ds =>
    cases h3
    obtain ⟨p1, xs, rfl, h1, r1⟩ := rx.tup S3.sub
    refine .inr (.inl ⟨p1, xs, rfl, h1, fun hw => ?_, fun _ => res_tup S3 (cut_rel r1) fun x H' F' e' S' R' => k4 H' F' e' S' x R'⟩)
    have ec : cut ds l h = ds := by
      unfold cut
      rw [← r1.length, ← sIx_eq, ← sIx_eq, hw.1, hw.2, r1.length]
      simp
    rw [ec] at k4
    refine k4.here S3 _ (.v ?_)
    rcases rx with r | ⟨_, _, _, e, _⟩
    · exact r
    · cases e
  | lst ds =>
    cases h3
    obtain ⟨p1, xs, rfl, h1, r1⟩ := rx.lst S3.sub
    exact .inl ⟨p1, xs, rfl, .inl (.inl h1), res_lst S3 (cut_rel r1) fun x H' F' e' S' R' => k4 H' F' e' S' x R'⟩
  | scr ds =>
    cases h3
    obtain ⟨p1, xs, rfl, h1, r1⟩ := rx.scr S3.sub
    exact .inl ⟨p1, xs, rfl, h1, res_lst S3 (cut_rel r1) fun x H' F' e' S' R' => k4 H' F' e' S' x R'⟩
  | str z =>
    have h3 : (if z.length ≤ SZ then some (Sl.v (.str (cut z l h))) else none) = some s := h3
    by_cases hz : z.length ≤ SZ
    · rw [if_pos hz] at h3
      cases h3
      obtain ⟨e1, v1⟩ := rx.str
      refine .inr (.inr ⟨_, e1, by rw [str_len, ← SZ_eq]; exact hz, ?_⟩)
      have ec : cutS ⟨z.toArray⟩ l h = ⟨(cut z l h).toArray⟩ := by
        unfold cutS cut
        rw [str_len, sIx_eq, sIx_eq]
      rw [ec]
      refine k4.here S3 _ (.v (.str _ fun c hc => v1 c ?_))
      unfold cut at hc
      exact List.mem_of_mem_drop (List.mem_of_mem_take hc)
    · rw [if_neg hz] at h3
      cases h3
  | _ => cases h3
/-! ### built-in functions of one value -/
def BiD (X : Cx) (FA : Nat → Option Addr) (f : Value) (g : D → Option Sl) : Prop :=
  ∃ r : List V → Hp → VK → Prop, CallR X f r ∧ ∀ (Z : Addr → Prop) (σ : St) (H : Hp) (ρ : Env) (F : Hp) (x : V) (a : D) (s : Sl) (Q : VK), SR X.K FA Z σ H ρ F → RQ X.K FA F H x a → g a = some s →
    (∀ v H' F', Ext Z F H F' H' → SR X.K FA Z σ H' ρ F' → RX X.K FA Z σ ρ F' H' v s → Q v H') → r [x] H Q
theorem glx {X : Cx} {W : WX} {Φ : PhiT} {FA CA : Nat → Option Addr} {x : Str} (O : Ok C X W Φ FA CA) (hk : kindIs C.sc x .globalImplicit = true) : Gl X x := by
  unfold Gl
  show X.env.scope.names.lookup x = _
  rw [O.sc]
  exact kind_of hk
theorem s_bi {x id : String} {bi : Bi} {p : Pos} {c : P} (hb : ∀ X W Φ FA CA, Ok C X W Φ FA CA → BiD X FA (.builtin id) (biD bi)) (hk : kindIs C.sc (Str.ofString x) .globalImplicit = true) (hg : C.gi (Str.ofString x) = some .blt) (hv : bootBuiltins (Str.ofString x) = some (.builtin id))
    (hn : Str.ofString x ≠ "__name__") (hdb : (Str.ofString x == ("__debug__" : Str)) = false) (ha : SP C a c) (hp : plainE a = true) : SE C (.Call (.Name (Str.ofString x) p) [a] [] pos) (.bi bi c) := fun X W Φ FA CA O => by
  obtain ⟨ta, ha1, ha2⟩ := ha X W Φ FA CA O
  obtain ⟨r, hr, hq⟩ := hb X W Φ FA CA O
  refine ⟨_, pe_callB hr (glx O hk) (O.gi _ _ hg) hv (pa_cons ha1 pa_nil (plain_star hp [] X.env)) hn hdb (plain_star hp [] X.env) rfl, fun Z σ H ρ F Q S p => ?_⟩
  rw [evE] at p
  exact one ha2 (g := biD bi) (k := fun s H' ρ' F' => ∀ x, RX X.K FA Z σ ρ' F' H' x s → Q x H') S p fun H2 ρ2 F2 x a s S2 rx es k => hq Z σ H2 ρ2 F2 x a s Q S2 rx es fun v H' F' e' S' R' => k H' F' e' S' v R'
theorem s_ty {x T : String} {bi : Bi} {p : Pos} {c : P} (hb : ∀ X W Φ FA CA, Ok C X W Φ FA CA → BiD X FA (.type T) (biD bi)) (hk : kindIs C.sc (Str.ofString x) .globalImplicit = true) (hg : C.gi (Str.ofString x) = some .blt) (hv : bootBuiltins (Str.ofString x) = some (.type T))
    (hn : Str.ofString x ≠ "__name__") (hdb : (Str.ofString x == ("__debug__" : Str)) = false) (ha : SP C a c) (hp : plainE a = true) : SE C (.Call (.Name (Str.ofString x) p) [a] [] pos) (.bi bi c) := fun X W Φ FA CA O => by
  obtain ⟨ta, ha1, ha2⟩ := ha X W Φ FA CA O
  obtain ⟨r, hr, hq⟩ := hb X W Φ FA CA O
  refine ⟨_, pe_callTy hr (glx O hk) (O.gi _ _ hg) hv (pa_cons ha1 pa_nil (plain_star hp [] X.env)) hn hdb (plain_star hp [] X.env) rfl, fun Z σ H ρ F Q S p => ?_⟩
  rw [evE] at p
  exact one ha2 (g := biD bi) (k := fun s H' ρ' F' => ∀ x, RX X.K FA Z σ ρ' F' H' x s → Q x H') S p fun H2 ρ2 F2 x a s S2 rx es k => hq Z σ H2 ρ2 F2 x a s Q S2 rx es fun v H' F' e' S' R' => k H' F' e' S' v R'
section
variable {X : Cx} {FA : Nat → Option Addr}
theorem bi_len : BiD X FA (.builtin "len") (biD .len) := by
  refine ⟨_, call_len_seq.or call_len_str, fun Z σ H ρ F x a s Q S rx es q => ?_⟩
  cases a with
  | tup ds =>
    cases es
    obtain ⟨p1, xs, rfl, h1, r1⟩ := rx.tup S.sub
    refine .inl ⟨p1, xs, rfl, .inr h1, ?_⟩
    rw [r1.length]
    exact q _ H F .refl S (.v (.int _))
  | lst ds =>
    cases es
    obtain ⟨p1, xs, rfl, h1, r1⟩ := rx.lst S.sub
    refine .inl ⟨p1, xs, rfl, .inl (.inl (.inl h1)), ?_⟩
    rw [r1.length]
    exact q _ H F .refl S (.v (.int _))
  | scr ds =>
    cases es
    obtain ⟨p1, xs, rfl, h1, r1⟩ := rx.scr S.sub
    refine .inl ⟨p1, xs, rfl, .inl h1, ?_⟩
    rw [r1.length]
    exact q _ H F .refl S (.v (.int _))
  | str z =>
    have es : (if z.length ≤ SZ then some (Sl.v (.int z.length)) else none) = some s := es
    by_cases hz : z.length ≤ SZ
    · rw [if_pos hz] at es
      cases es
      refine .inr ⟨_, congrArg (fun x => [x]) rx.str.1, by rw [str_len, ← SZ_eq]; exact hz, ?_⟩
      rw [str_len]
      exact q _ H F .refl S (.v (.int _))
    · rw [if_neg hz] at es
      cases es
  | _ => cases es
theorem bi_abs : BiD X FA (.builtin "abs") (biD .abs) := by
  refine ⟨_, call_abs, fun Z σ H ρ F x a s Q S rx es q => ?_⟩
  cases a with
  | int i =>
    cases es
    exact ⟨i, congrArg (fun x => [x]) rx.int, q _ H F .refl S (.v (.int _))⟩
  | _ => cases es
theorem bi_int : BiD X FA (.type "int") (biD .int) := by
  refine ⟨_, call_int1, fun Z σ H ρ F x a s Q S rx es q => ?_⟩
  cases a with
  | int i =>
    cases es
    exact .inl ⟨i, congrArg (fun x => [x]) rx.int, q _ H F .refl S (.v (.int _))⟩
  | bl k =>
    cases es
    exact .inr ⟨k, congrArg (fun x => [x]) rx.bl, q _ H F .refl S (.v (.int _))⟩
  | _ => cases es
theorem strI_ok (i : Int) : (Str.ofString (toString i)) = ⟨(strI i).toArray⟩ ∧ ∀ c ∈ strI i, c < 1114112 := by
  refine ⟨?_, fun c hc => ?_⟩
  · unfold strI
    have h := PyProof.Rows.signs_ofString (toString i)
    have h2 : (Str.ofString (toString i)).cps.toList = (toString i).toList.map Char.toNat := h
    rw [← h2]
  · unfold strI at hc
    obtain ⟨ch, _, rfl⟩ := List.mem_map.mp hc
    have := ch.valid
    have h2 : ch.toNat < 1114112 := by
      rcases this with h | h
      · exact Nat.lt_trans h (by decide)
      · exact h.2
    exact h2
theorem bi_str : BiD X FA (.type "str") (biD .str) := by
  refine ⟨_, call_str_int, fun Z σ H ρ F x a s Q S rx es q => ?_⟩
  cases a with
  | int i =>
    have es : (if i.natAbs.log2 < 1900 then some (Sl.v (.str (strI i))) else none) = some s := es
    by_cases hz : i.natAbs.log2 < 1900
    · rw [if_pos hz] at es
      cases es
      refine ⟨i, congrArg (fun x => [x]) rx.int, by omega, ?_⟩
      rw [(strI_ok i).1]
      exact q _ H F .refl S (.v (.str _ (strI_ok i).2))
    · rw [if_neg hz] at es
      cases es
  | _ => cases es
theorem bi_tuple : BiD X FA (.type "tuple") (biD .tuple) := by
  refine ⟨_, call_tuple_of, fun Z σ H ρ F x a s Q S rx es q => ?_⟩
  cases a with
  | tup ds =>
    cases es
    have r0 : Rp X.K FA F x (.tup ds) := by
      rcases rx with r | ⟨_, _, _, e, _⟩
      · exact r
      · cases e
    obtain ⟨p1, xs, rfl, h1, r1⟩ := rx.tup S.sub
    exact ⟨p1, xs, rfl, .inr ⟨h1, q _ H F .refl S (.v r0)⟩⟩
  | lst ds =>
    cases es
    obtain ⟨p1, xs, rfl, h1, r1⟩ := rx.lst S.sub
    exact ⟨p1, xs, rfl, .inl ⟨.inl (.inl h1), res_tup S r1 q⟩⟩
  | _ => cases es
theorem bi_list : BiD X FA (.type "list") (biD .list) := by
  refine ⟨_, call_list_of, fun Z σ H ρ F x a s Q S rx es q => ?_⟩
  cases a with
  | tup ds =>
    cases es
    obtain ⟨p1, xs, rfl, h1, r1⟩ := rx.tup S.sub
    exact ⟨p1, xs, rfl, .inr h1, res_lst S r1 q⟩
  | lst ds =>
    cases es
    obtain ⟨p1, xs, rfl, h1, r1⟩ := rx.lst S.sub
    exact ⟨p1, xs, rfl, .inl (.inl (.inl h1)), res_lst S r1 q⟩
  | scr ds =>
    cases es
    obtain ⟨p1, xs, rfl, h1, r1⟩ := rx.scr S.sub
    exact ⟨p1, xs, rfl, .inl h1, res_lst S r1 q⟩
  | _ => cases es
theorem cr_sumT (hc : X.calm = true) : CallR X (.builtin "sum") (fun xs H Q => ∃ (a : Addr) (ns : List Int), xs = [V.ref a] ∧ SqT X.K H a (ns.map V.int) ∧ Q (.int ns.sum) H) := by
  intro pins s σ H vs us Q I r h
  obtain ⟨a, ns, rfl, hs, q⟩ := h
  obtain ⟨its, rv, hl, _⟩ := I.tuple hs
  rw [Vals.ref1 r]
  have hi := rv.ints
  obtain ⟨xs, hx⟩ := (PyProof.Rows.IntsAre.allInts hi).items
  have hn : numsOf its = ns := PyProof.Rows.IntsAre.numsOf hi
  have hx2 : its = (intItems xs).toList := by
    have := congrArg Array.toList hx
    simpa using this
  have hl2 : s.heap.IsTuple a (intItems xs) := by
    rw [← hx]
    exact hl
  rw [hx2, nums_intItems] at hn
  refine PySem.W.ktm_sumG (I.ok.hd hc) hl2 fun h' tk t' hk => ?_
  rw [preSum_eq, List.take_of_length_le (by simp), hn]
  exact ⟨.int _, H, I.kept hk, ⟨_, rfl⟩, q⟩
theorem bi_sum (hc : X.calm = true) : BiD X FA (.builtin "sum") (biD .sum) := by
  refine ⟨_, (cr_sum hc).or (cr_sumT hc), fun Z σ H ρ F x a s Q S rx es q => ?_⟩
  cases a with
  | lst ds =>
    have es : ((intsD ds).map fun ns => Sl.v (.int ns.sum)) = some s := es
    obtain ⟨ns, hn, rfl⟩ := Option.map_eq_some_iff.mp es
    obtain ⟨p1, xs, rfl, h1, r1⟩ := rx.lst S.sub
    refine .inl ⟨p1, ns, rfl, .inl (.inl ?_), q _ H F .refl S (.v (.int _))⟩
    rw [← r1.intsD hn]
    exact h1
  | tup ds =>
    have es : ((intsD ds).map fun ns => Sl.v (.int ns.sum)) = some s := es
    obtain ⟨ns, hn, rfl⟩ := Option.map_eq_some_iff.mp es
    obtain ⟨p1, xs, rfl, h1, r1⟩ := rx.tup S.sub
    refine .inr ⟨p1, ns, rfl, ?_, q _ H F .refl S (.v (.int _))⟩
    rw [← r1.intsD hn]
    exact h1
  | _ => cases es
theorem bi_all (hc : X.calm = true) : BiD X FA (.builtin "all") (biD .all) := by
  refine ⟨_, cr_all hc, fun Z σ H ρ F x a s Q S rx es q => ?_⟩
  cases a with
  | lst ds =>
    obtain ⟨ns, hn, rfl⟩ := Option.map_eq_some_iff.mp es
    obtain ⟨p1, xs, rfl, h1, r1⟩ := rx.lst S.sub
    refine ⟨p1, ns, rfl, .inl (.inl ?_), q _ H F .refl S (.v (.bl _))⟩
    rw [← r1.boolsD hn]
    exact h1
  | _ => cases es
theorem bi_any (hc : X.calm = true) : BiD X FA (.builtin "any") (biD .any) := by
  refine ⟨_, cr_any hc, fun Z σ H ρ F x a s Q S rx es q => ?_⟩
  cases a with
  | lst ds =>
    obtain ⟨ns, hn, rfl⟩ := Option.map_eq_some_iff.mp es
    obtain ⟨p1, xs, rfl, h1, r1⟩ := rx.lst S.sub
    refine ⟨p1, ns, rfl, .inl (.inl ?_), q _ H F .refl S (.v (.bl _))⟩
    rw [← r1.boolsD hn]
    exact h1
  | _ => cases es
end
/-! ### append -/
/-- what slot i holds changes -/
theorem SR.put {K : PySem.W.Frag} {FA : Nat → Option Addr} {Z : Addr → Prop} {σ : St} {H F : Hp} {ρ : Env} {i : Nat} {p : Addr} {xs ys : List V} {ds es : List D} (S : SR K FA Z σ H ρ F) (e : ρ[i]? = some (some (.o (.lst ds)))) (ex : σ[i]? = some (some (.ref p))) (h : H p = some (.lst xs)) (r : Rps K FA F ys es) :
    SR K FA Z σ (upd H p (.lst ys)) (ρ.set i (some (.o (.lst es)))) F ∧ Ext Z F H F (upd H p (.lst ys)) := by
  have ow : owns σ ρ i p := ⟨ex, _, e⟩
  have nz := S.oz i p ow
  have nF : F p = none := by
    obtain ⟨x, e1, r1⟩ := S.slot i _ e
    rw [ex] at e1
    cases e1
    obtain ⟨a, xs', ds', ea, _, n, _⟩ := own_lst r1
    cases ea
    exact n
  have hl : i < ρ.length := (List.getElem?_eq_some_iff.mp e).1
  have key : ∀ {j : Nat} {s : Sl}, (ρ.set i (some (.o (.lst es))))[j]? = some (some s) → (j = i ∧ s = .o (.lst es)) ∨ (j ≠ i ∧ ρ[j]? = some (some s)) := fun {j s} q => by
    by_cases hj : i = j
    · subst hj
      rw [List.getElem?_set_self hl] at q
      cases q
      exact .inl ⟨rfl, rfl⟩
    · rw [List.getElem?_set_ne hj] at q
      exact .inr ⟨fun z => hj z.symm, q⟩
  have ow2 : ∀ {j : Nat} {a : Addr}, owns σ (ρ.set i (some (.o (.lst es)))) j a → owns σ ρ j a := fun {j a} ⟨o1, d, o2⟩ => by
    rcases key o2 with ⟨rfl, _⟩ | ⟨_, o2⟩
    · exact ⟨o1, _, e⟩
    · exact ⟨o1, d, o2⟩
  refine ⟨⟨fun a o q => ?_, fun a z => ?_, by rw [List.length_set]; exact S.len, fun j s q => ?_, fun j a o => S.oz j a (ow2 o), fun j k a o1 o2 => S.dis j k a (ow2 o1) (ow2 o2)⟩, .refl, fun a z => upd_ne fun q => nz (by rw [← q]; exact z)⟩
  · rw [upd_ne (fun z => by rw [z, nF] at q; cases q)]
    exact S.sub a o q
  · rw [upd_ne (fun q => nz (by rw [← q]; exact z))]
    exact S.zf a z
  · rcases key q with ⟨rfl, rfl⟩ | ⟨hj, q⟩
    · exact ⟨_, ex, p, ys, rfl, nF, upd_same, r⟩
    · obtain ⟨x, e1, r1⟩ := S.slot j s q
      refine ⟨x, e1, r1.mono .refl fun a ea ⟨d, ed⟩ => ?_⟩
      subst ea ed
      have hne : a ≠ p := fun z => hj (S.dis j i p (by rw [← z]; exact ⟨e1, d, q⟩) ow)
      obtain ⟨a', _, _, ea, _, n, _⟩ := own_lst r1
      cases ea
      exact ⟨n, upd_ne hne⟩
theorem s_app {x : Str} {i : Nat} {c : E} {p apos : Pos} (h : visB C x i = true) (ha : SE C a c) (hp : plainE a = true) (hl : (apos.endLine == pos.line) = true) : SE C (.Call (.Attribute (.Name x p) "append" apos) [a] [] pos) (.app i c) := fun X W Φ FA CA O => by
  obtain ⟨ta, ha1, ha2⟩ := ha X W Φ FA CA O
  refine ⟨_, pe_bm PySem.F.plainAttrs_list PySem.F.slot_list_append PySem.F.type_list_append mt_append (pe_v O h) (pa_cons ha1 pa_nil (plain_star hp [] X.env)) rfl (by rw [plain_star hp]; rfl) hl (plain_star hp [] X.env) rfl, fun Z σ H ρ F Q S p => ?_⟩
  rw [evE] at p
  cases g : gt ρ i with
  | none =>
    rw [g] at p
    exact p.elim
  | some s =>
    rw [g] at p
    obtain ⟨x, ex, r⟩ := S.slot i s (gt_some.mp g)
    cases s with
    | v d => exact p.elim
    | o d =>
      obtain ⟨a, xs, ds, rfl, rfl, n, h1, h2⟩ := own_lst r
      refine ⟨_, ex, .inl ⟨rfl, _, .inl (.inl h1)⟩, ?_⟩
      refine ha2.toV Z σ H ρ F _ S (p.bind.imp fun s H1 ρ1 F1 e1 S1 k1 x1 r1 => ?_)
      unfold appS at k1
      cases g1 : gt ρ1 i with
      | none =>
        rw [g1] at k1
        exact k1.elim
      | some s1 =>
        rw [g1] at k1
        have g1' := gt_some.mp g1
        obtain ⟨x', ex', r'⟩ := S1.slot i s1 g1'
        rw [ex] at ex'
        cases ex'
        cases s1 with
        | v d => exact k1.elim
        | o d1 =>
          obtain ⟨a', xs1, ds1, ea, rfl, n1, h3, h4⟩ := own_lst r'
          cases ea
          by_cases hz : ds1.length < SZ
          · have k1 : Po X.K FA CA W Z σ H1 F1 (if ds1.length < SZ then R.ok (Sl.v .non) (ρ1.set i (some (.o (.lst (ds1 ++ [s.d]))))) else .bad) _ := k1
            rw [if_pos hz] at k1
            obtain ⟨S2, E2⟩ := S1.put g1' ex h3 (h4.append (.cons r1 .nil))
            exact ⟨a, xs1, x1, rfl, rfl, h3, by rw [h4.length, ← SZ_eq]; exact hz, k1 _ _ E2 S2 _ (.v .non)⟩
          · have k1 : Po X.K FA CA W Z σ H1 F1 (if ds1.length < SZ then R.ok (Sl.v .non) (ρ1.set i (some (.o (.lst (ds1 ++ [s.d]))))) else .bad) _ := k1
            rw [if_neg hz] at k1
            exact k1.elim
/-! ### calls of defs -/
theorem call_bad {K : PySem.W.Frag} {FA CA : Nat → Option Addr} {W : WX} {Z : Addr → Prop} {σ : St} {H F : Hp} {ρ : Env} {Φ : PhiT} {f : Nat} {xs : List (Nat ⊕ D)} {vs : List V} {k : Sl → Hp → Env → Hp → Prop} (r : ROs K FA σ F xs vs) (h : ∀ ss, ss.length = vs.length → Φ f ss = .bad)
    (p : Po K FA CA W Z σ H F (callF Φ f xs ρ) k) : False := by
  have ln : ∀ {xs : List (Nat ⊕ D)} {vs : List V} {ρ ρ1 : Env} {ss : List Sl}, ROs K FA σ F xs vs → lend xs ρ = some (ss, ρ1) → ss.length = vs.length := by
    intro xs vs ρ ρ1 ss r
    induction r generalizing ρ ρ1 ss with
    | nil =>
      intro e
      cases e
      rfl
    | @cons q qs x xs r rs ih =>
      intro e
      cases q with
      | inr d =>
        rw [lend] at e
        obtain ⟨⟨ss', ρ'⟩, e1, e2⟩ := Option.map_eq_some_iff.mp e
        cases e2
        exact congrArg (· + 1) (ih e1)
      | inl i =>
        rw [lend] at e
        cases g : gt ρ i with
        | none =>
          rw [g] at e
          cases e
        | some s =>
          rw [g] at e
          cases s <;> (obtain ⟨⟨ss', ρ'⟩, e1, e2⟩ := Option.map_eq_some_iff.mp e; cases e2; exact congrArg (· + 1) (ih e1))
  unfold callF at p
  cases hl : lend xs ρ with
  | none =>
    rw [hl] at p
    exact p
  | some q =>
    obtain ⟨ss, ρ1⟩ := q
    rw [hl] at p
    dsimp only at p
    rw [h ss (ln r hl)] at p
    exact p
theorem s_call {x : Str} {f : Nat} {ps : List Str} {dfl : List Int} {ks : List Nat} {n : Nat} {p : Pos} {es : List Expr} {cs : A} (hk : kindIs C.sc x .globalImplicit = true) (hg : C.gi x = some (.fn f ps dfl ks)) (hdb : (x == ("__debug__" : Str)) = false) (hn : n ≤ dfl.length) (ha : SA C (a :: es) cs) (hp : plainE a = true)
    (hpl : ∀ env, (backTo pos (starEach es env)).any (·.1) = false) : SE C (.Call (.Name x p) (a :: es) [] pos) (.call f cs (dfl.drop n)) := fun X W Φ FA CA O => by
  obtain ⟨ta, ha1, ha2⟩ := ha X W Φ FA CA O
  obtain ⟨k, fa, fd, hr, hm, hkp, hfa, hF, hbad, hb⟩ := O.gi x _ hg
  obtain ⟨⟨ds, hbd, hvd⟩, _⟩ := hb n hn
  refine ⟨_, pe_callSD hF hr (glx O hk) hm hkp hbd hvd (fun σ => passAt O.tk σ) ha1 hdb (plain_star hp es X.env) (hpl X.env), fun Z σ H ρ F Q S p => ?_⟩
  rw [evE] at p
  refine ha2 Z σ H ρ F _ S (p.bind.imp fun qs H1 ρ1 F1 e1 S1 k1 xs r1 => ?_)
  have rd : ∀ l : List Int, ROs X.K FA σ F1 (l.map fun i => .inr (.int i)) (l.map V.int) := fun l => by
    induction l with
    | nil => exact .nil
    | cons i l ih => exact .cons (Rp.int i) ih
  have ra : ∀ {qs : List (Nat ⊕ D)} {xs : List V} {qs' : List (Nat ⊕ D)} {xs' : List V}, ROs X.K FA σ F1 qs xs → ROs X.K FA σ F1 qs' xs' → ROs X.K FA σ F1 (qs ++ qs') (xs ++ xs') := fun {qs xs qs' xs'} h h' => by
    induction h with
    | nil => exact h'
    | cons r _ ih => exact .cons r ih
  have rr := ra r1 (rd (dfl.drop n))
  by_cases el : (xs ++ (dfl.drop n).map V.int).length = ps.length
  · have q := call_sp S1 rr k1
    rw [el] at q
    exact q
  · exact (call_bad rr (fun ss h => hbad ss (by rw [h]; exact el)) k1).elim
end
end Rf

set_option maxHeartbeats 1000000
/-! Rf7: what is walked; targets; statements. -/
namespace Rf
open PySem PySem.Spec L2
theorem PI.or {X : Cx} {tg it : Expr} {w1 w2 : TI} (h1 : PI X tg it w1) (h2 : PI X tg it w2) : PI X tg it (fun σ H R => w1 σ H R ∨ w2 σ H R) :=
  ⟨fun pins s σ H R I h => h.elim (h1.run pins s σ H R I) (h2.run pins s σ H R I)⟩
/-- an iterator goes through these data -/
def ItD (K : PySem.W.Frag) (FA : Nat → Option Addr) (F : Hp) (J : It) (ds : List D) : Prop :=
  ∀ (i : Nat) (H1 F1 : Hp), Sub F F1 → Sub F1 H1 → (ds.length ≤ i → J.stop i H1) ∧
    ∀ d, ds[i]? = some d → J.go i H1 ∧ ∀ x H2, J.yld i H1 x H2 → (H2 = H1 ∧ Rp K FA F1 x d) ∨ ∃ p o, H1 p = none ∧ H2 = upd H1 p o ∧ Rp K FA (upd F1 p o) x d
def RdI (K : PySem.W.Frag) (FA CA : Nat → Option Addr) (W : WX) (wi : TI) (c : Env → R (List D)) : Prop := ∀ Z σ H ρ F (Q : It → Hp → Prop), SR K FA Z σ H ρ F → Po K FA CA W Z σ H F (c ρ) (fun ds H' ρ' F' => ∀ J, ItD K FA F' J ds → Q J H') → wi σ H Q
def SIt (C : CC) (tg it : Expr) (c : Ir) : Prop := ∀ X W Φ FA CA, Ok C X W Φ FA CA → ∃ wi, PI X tg it wi ∧ RdI X.K FA CA W wi (evIt Φ c)
section
variable {K : PySem.W.Frag} {FA : Nat → Option Addr} {F : Hp} {xs ys : List V} {ds es : List D} {a b : Addr}
theorem itd_list (h : SqL K F a xs) (r : Rps K FA F xs ds) : ItD K FA F (Itl K a) ds := fun i H1 F1 s1 s2 => by
  have h1 := (s1.trans s2).sqL h
  refine ⟨fun l => ⟨xs, h1, by rw [r.length]; exact l⟩, fun d e => ?_⟩
  obtain ⟨v, ev, rv⟩ := r.get e
  refine ⟨⟨xs, v, h1, ev⟩, fun x H2 ⟨e2, y⟩ => .inl ⟨e2, ?_⟩⟩
  have := y xs h1
  rw [ev] at this
  cases this
  exact rv.mono s1
theorem itd_tup (h : SqT K F a xs) (r : Rps K FA F xs ds) : ItD K FA F (Itt K a) ds := fun i H1 F1 s1 s2 => by
  have h1 := (s1.trans s2).sqT h
  refine ⟨fun l => ⟨xs, h1, by rw [r.length]; exact l⟩, fun d e => ?_⟩
  obtain ⟨v, ev, rv⟩ := r.get e
  refine ⟨⟨xs, v, h1, ev⟩, fun x H2 ⟨e2, y⟩ => .inl ⟨e2, ?_⟩⟩
  have := y xs h1
  rw [ev] at this
  cases this
  exact rv.mono s1
theorem itd_str {z : List Nat} (h : ∀ c ∈ z, c < 1114112) : ItD K FA F (Its ⟨z.toArray⟩) (z.map fun c => .str [c]) := fun i H1 F1 s1 s2 => by
  refine ⟨fun l => ?_, fun d e => ?_⟩
  · show z.toArray.size ≤ i
    rw [List.length_map] at l
    simpa using l
  · rw [List.getElem?_map] at e
    obtain ⟨c, hc, rfl⟩ := Option.map_eq_some_iff.mp e
    have hi : i < z.length := (List.getElem?_eq_some_iff.mp hc).1
    refine ⟨by show i < z.toArray.size; simpa using hi, fun x H2 ⟨e2, c', h1, h2⟩ => .inl ⟨e2, ?_⟩⟩
    have h1 : z.toArray[i]? = some c' := h1
    rw [List.getElem?_toArray, hc] at h1
    cases h1
    subst h2
    exact .str [c] fun c' hc' => by
      rw [List.mem_singleton.mp hc']
      exact h c (List.mem_of_getElem? hc)
theorem itd_rng {lo : Int} {n : Nat} : ItD K FA F (Itr lo n) (rngL lo n) := fun i H1 F1 s1 s2 => by
  rw [rngL_eq]
  refine ⟨fun l => by
    rw [List.length_map, List.length_range] at l
    exact l, fun d e => ?_⟩
  rw [List.getElem?_map] at e
  obtain ⟨k, hk, rfl⟩ := Option.map_eq_some_iff.mp e
  obtain ⟨hi, ek⟩ := List.getElem?_eq_some_iff.mp hk
  simp only [List.length_range] at hi
  simp only [List.getElem_range] at ek
  subst ek
  refine ⟨hi, fun x H2 ⟨e2, ex⟩ => .inl ⟨e2, ?_⟩⟩
  subst ex
  exact .int _
theorem itd_rng3 {lo : Int} {n : Nat} : ItD K FA F (Itc lo (-1) n) (rngD lo n) := fun i H1 F1 s1 s2 => by
  rw [rngD_eq]
  refine ⟨fun l => by
    rw [List.length_map, List.length_range] at l
    exact l, fun d e => ?_⟩
  rw [List.getElem?_map] at e
  obtain ⟨k, hk, rfl⟩ := Option.map_eq_some_iff.mp e
  obtain ⟨hi, ek⟩ := List.getElem?_eq_some_iff.mp hk
  simp only [List.length_range] at hi
  simp only [List.getElem_range] at ek
  subst ek
  refine ⟨hi, fun x H2 ⟨e2, ex⟩ => .inl ⟨e2, ?_⟩⟩
  subst ex
  have : lo + (i : Nat) * (-1) = lo - (i : Int) := by omega
  rw [this]
  exact .int _
theorem enumL_get : ∀ (ds : List D) (k i : Nat), (enumL k ds)[i]? = (ds[i]?).map fun d => .tup [.int ((k + i : Nat) : Int), d]
  | [], k, i => by simp [enumL]
  | d :: ds, k, 0 => by simp [enumL]
  | d :: ds, k, i + 1 => by
    rw [enumL, List.getElem?_cons_succ, enumL_get ds (k + 1) i, List.getElem?_cons_succ]
    congr 1
    funext d
    rw [show k + 1 + i = k + (i + 1) by omega]
theorem enumL_len : ∀ (ds : List D) (k : Nat), (enumL k ds).length = ds.length
  | [], _ => rfl
  | d :: ds, k => congrArg (· + 1) (enumL_len ds (k + 1))
theorem itd_enum (h : SqL K F a xs) (r : Rps K FA F xs ds) : ItD K FA F (Ite K a) (enumL 0 ds) := fun i H1 F1 s1 s2 => by
  have h1 := (s1.trans s2).sqL h
  refine ⟨fun l => ⟨xs, h1, by rw [r.length, ← enumL_len ds 0]; exact l⟩, fun d e => ?_⟩
  rw [enumL_get] at e
  obtain ⟨d', hd, rfl⟩ := Option.map_eq_some_iff.mp e
  obtain ⟨v, ev, rv⟩ := r.get hd
  refine ⟨⟨xs, v, h1, ev⟩, fun x H2 ⟨T, y, ex, nT, e2, hy⟩ => .inr ⟨T, _, nT, e2, ?_⟩⟩
  have := hy xs h1
  rw [ev] at this
  cases this
  subst ex
  have nF : F1 T = none := by
    cases q : F1 T with
    | none => rfl
    | some u => rw [s2 T u q] at nT; cases nT
  rw [Nat.zero_add]
  exact .tup (.inl (.inl upd_same)) (.cons (.int _) (.cons (rv.mono (s1.trans (Sub.upd .refl nF))) .nil))
theorem zipL_get : ∀ (ds es : List D) (i : Nat), (zipL ds es)[i]? = (ds[i]?).bind fun d => (es[i]?).map fun e => .tup [d, e]
  | [], es, i => by simp [zipL]
  | d :: ds, [], i => by
    simp [zipL]
  | d :: ds, e :: es, 0 => by simp [zipL]
  | d :: ds, e :: es, i + 1 => by
    rw [zipL, List.getElem?_cons_succ, zipL_get ds es i, List.getElem?_cons_succ, List.getElem?_cons_succ]
theorem zipL_len : ∀ (ds es : List D), (zipL ds es).length = min ds.length es.length
  | [], es => by simp [zipL]
  | d :: ds, [] => by simp [zipL]
  | d :: ds, e :: es => by
    rw [zipL, List.length_cons, zipL_len ds es, List.length_cons, List.length_cons]
    omega
theorem itd_zip (h : SqL K F a xs) (r : Rps K FA F xs ds) (h' : SqL K F b ys) (r' : Rps K FA F ys es) : ItD K FA F (Itz K a b) (zipL ds es) := fun i H1 F1 s1 s2 => by
  have h1 := (s1.trans s2).sqL h
  have h2 := (s1.trans s2).sqL h'
  refine ⟨fun l => ⟨xs, ys, h1, h2, by rw [zipL_len] at l; rw [r.length, r'.length]; omega⟩, fun d e => ?_⟩
  rw [zipL_get] at e
  obtain ⟨d1, hd1, e⟩ := Option.bind_eq_some_iff.mp e
  obtain ⟨d2, hd2, rfl⟩ := Option.map_eq_some_iff.mp e
  obtain ⟨v1, ev1, rv1⟩ := r.get hd1
  obtain ⟨v2, ev2, rv2⟩ := r'.get hd2
  refine ⟨⟨xs, ys, v1, v2, h1, h2, ev1, ev2⟩, fun x H2 ⟨T, y1, y2, ex, nT, e2, hy1, hy2⟩ => .inr ⟨T, _, nT, e2, ?_⟩⟩
  have q1 := hy1 xs h1
  have q2 := hy2 ys h2
  rw [ev1] at q1
  rw [ev2] at q2
  cases q1
  cases q2
  subst ex
  have nF : F1 T = none := by
    cases q : F1 T with
    | none => rfl
    | some u => rw [s2 T u q] at nT; cases nT
  have s3 := s1.trans (Sub.upd (o := .tup [v1, v2]) .refl nF)
  exact .tup (.inl (.inl upd_same)) (.cons (rv1.mono s3) (.cons (rv2.mono s3) .nil))
theorem itd_zipT (h : SqT K F a xs) (r : Rps K FA F xs ds) (h' : SqT K F b ys) (r' : Rps K FA F ys es) : ItD K FA F (RZ.ItzT K a b) (zipL ds es) := fun i H1 F1 s1 s2 => by
  have h1 := (s1.trans s2).sqT h
  have h2 := (s1.trans s2).sqT h'
  refine ⟨fun l => ⟨xs, ys, h1, h2, by rw [zipL_len] at l; rw [r.length, r'.length]; omega⟩, fun d e => ?_⟩
  rw [zipL_get] at e
  obtain ⟨d1, hd1, e⟩ := Option.bind_eq_some_iff.mp e
  obtain ⟨d2, hd2, rfl⟩ := Option.map_eq_some_iff.mp e
  obtain ⟨v1, ev1, rv1⟩ := r.get hd1
  obtain ⟨v2, ev2, rv2⟩ := r'.get hd2
  refine ⟨⟨xs, ys, v1, v2, h1, h2, ev1, ev2⟩, fun x H2 ⟨T, y1, y2, ex, nT, e2, hy1, hy2⟩ => .inr ⟨T, _, nT, e2, ?_⟩⟩
  have q1 := hy1 xs h1
  have q2 := hy2 ys h2
  rw [ev1] at q1
  rw [ev2] at q2
  cases q1
  cases q2
  subst ex
  have nF : F1 T = none := by
    cases q : F1 T with
    | none => rfl
    | some u => rw [s2 T u q] at nT; cases nT
  have s3 := s1.trans (Sub.upd (o := .tup [v1, v2]) .refl nF)
  exact .tup (.inl (.inl upd_same)) (.cons (rv1.mono s3) (.cons (rv2.mono s3) .nil))
theorem rev_get {α : Type} (ds : List α) (i : Nat) (h : i < ds.length) : ds.reverse[i]? = ds[ds.length - 1 - i]? := by
  rw [List.getElem?_reverse h]
theorem itd_rev (h : SqL K F a xs) (r : Rps K FA F xs ds) : ItD K FA F (Itv K a xs.length) ds.reverse := fun i H1 F1 s1 s2 => by
  have h1 := (s1.trans s2).sqL h
  refine ⟨fun l => by show xs.length ≤ i; rw [r.length]; simpa using l, fun d e => ?_⟩
  have hi : i < ds.length := by
    have := (List.getElem?_eq_some_iff.mp e).1
    simpa using this
  rw [rev_get ds i hi] at e
  obtain ⟨v, ev, rv⟩ := r.get e
  rw [← r.length] at ev
  refine ⟨⟨by rw [r.length]; exact hi, xs, v, h1, ev⟩, fun x H2 ⟨e2, y⟩ => .inl ⟨e2, ?_⟩⟩
  have := y xs h1
  rw [ev] at this
  cases this
  exact rv.mono s1
theorem itd_revT (h : SqT K F a xs) (r : Rps K FA F xs ds) : ItD K FA F (RT.ItvT K a xs.length) ds.reverse := fun i H1 F1 s1 s2 => by
  have h1 := (s1.trans s2).sqT h
  refine ⟨fun l => by show xs.length ≤ i; rw [r.length]; simpa using l, fun d e => ?_⟩
  have hi : i < ds.length := by
    have := (List.getElem?_eq_some_iff.mp e).1
    simpa using this
  rw [rev_get ds i hi] at e
  obtain ⟨v, ev, rv⟩ := r.get e
  rw [← r.length] at ev
  refine ⟨⟨by rw [r.length]; exact hi, xs, v, h1, ev⟩, fun x H2 ⟨e2, y⟩ => .inl ⟨e2, ?_⟩⟩
  have := y xs h1
  rw [ev] at this
  cases this
  exact rv.mono s1
end
section
variable {C : CC} {tg e a b c : Expr} {pos p : Pos}
/-- a list, a tuple, a text, as it comes -/
def iAny (K : PySem.W.Frag) (t : TE) : TI := fun σ H R => t σ H fun x H1 =>
  (∃ a xs, x = .ref a ∧ SqL K H1 a xs ∧ R (Itl K a) H1) ∨ (∃ a xs, x = .ref a ∧ SqT K H1 a xs ∧ R (Itt K a) H1) ∨ ∃ z, x = .str z ∧ R (Its z) H1
theorem pi_any {X : Cx} {t : TE} (h : PE X e t) : PI X tg e (iAny X.K t) := by
  constructor
  intro pins s σ H R I q
  refine thn (h.run pins s σ H _ I q) fun v s1 w1 => ?_
  obtain ⟨x, H1, I1, r1, q1⟩ := w1
  rcases q1 with ⟨a, xs, rfl, hq, q2⟩ | ⟨a, xs, rfl, hq, q2⟩ | ⟨z, rfl, q2⟩
  · cases r1
    obtain ⟨its, rv, pl, hz⟩ := I1.list hq
    exact wpAny_pyIter_list pl.isList (pi_one (tk := s1.toks) I1 _ (turn_list a _) ⟨_, Heap.get?_push_size _ rfl, rfl, rfl⟩ q2)
  · cases r1
    obtain ⟨its, rv, pl, hz⟩ := I1.tuple hq
    exact wpAny_pyIter_tuple (show s1.heap.IsTuple a its.toArray from pl) (pi_one (tk := s1.toks) I1 _ (turn_tuple a _) ⟨_, Heap.get?_push_size _ rfl, rfl, rfl⟩ q2)
  · obtain ⟨t, rfl⟩ := r1
    by_cases hw : z.cps.all (· < 128) = true
    · exact wpAny_pyIter_ascii hw (pi_one (tk := s1.toks) I1 _ (turn_str _ z t _ (.inl rfl)) ⟨_, Heap.get?_push_size _ rfl, rfl, rfl⟩ q2)
    · exact wpAny_pyIter_wide (by simpa using hw) (pi_one (tk := s1.toks) I1 _ (turn_str _ z t _ (.inr rfl)) ⟨_, Heap.get?_push_size _ rfl, rfl, rfl⟩ q2)
theorem it_sq {ce : E} (h : SE C e ce) : SIt C tg e (.sq ce) := fun X W Φ FA CA O => by
  obtain ⟨t, h1, h2⟩ := h X W Φ FA CA O
  refine ⟨_, pi_any h1, fun Z σ H ρ F Q S p => ?_⟩
  rw [evIt] at p
  refine h2.toV Z σ H ρ F _ S (p.bind.imp fun s H1 ρ1 F1 e1 S1 k1 x1 r1 => ?_)
  obtain ⟨ds, es, k2⟩ := k1.ofO
  have k3 := k2.here S1
  cases hd : s.d with
  | tup ds' =>
    rw [hd] at es r1
    cases es
    cases r1 with | tup h r => exact .inr (.inl ⟨_, _, rfl, S1.sub.sqT h, k3 _ (itd_tup h r)⟩)
  | lst ds' =>
    rw [hd] at es r1
    cases es
    cases r1 with | lst h r => exact .inl ⟨_, _, rfl, .inl (.inl (S1.sub _ _ h)), k3 _ (itd_list (.inl (.inl h)) r)⟩
  | scr ds' =>
    rw [hd] at es r1
    cases es
    cases r1 with | scr h r => exact .inl ⟨_, _, rfl, S1.sub.sqL h, k3 _ (itd_list h r)⟩
  | str z =>
    rw [hd] at es r1
    cases es
    cases r1 with | str _ h => exact .inr (.inr ⟨_, rfl, k3 _ (itd_str h)⟩)
  | dic _ =>
    rw [hd] at r1
    cases r1
  | _ => rw [hd] at es; cases es
theorem rng_of {x y : D} {ds : List D} (h : rngOf x y = some ds) : ∃ i j, x = .int i ∧ y = .int j ∧ -(2 ^ 62) ≤ i ∧ i < 2 ^ 62 ∧ -(2 ^ 62) ≤ j ∧ j < 2 ^ 62 ∧ ds = rngL i (j - i).toNat := by
  cases x <;> cases y <;> first | (cases h; done) | skip
  rename_i i j
  have h : (if rng62 i && rng62 j then some (rngL i (j - i).toNat) else none) = some ds := h
  by_cases q : (rng62 i && rng62 j) = true
  · rw [if_pos q] at h
    cases h
    simp only [Bool.and_eq_true, decide_eq_true_eq, rng62_iff] at q
    exact ⟨i, j, rfl, rfl, by omega, by omega, by omega, by omega, rfl⟩
  · rw [if_neg q] at h
    cases h
theorem it_rng1 {cb : E} (hk : kindIs C.sc "range" .globalImplicit = true) (hg : C.gi "range" = some .blt) (hb : SE C b cb) (hp : plainE b = true) : SIt C tg (.Call (.Name "range" p) [b] [] pos) (.rng1 cb) := fun X W Φ FA CA O => by
  obtain ⟨t, h1, h2⟩ := hb X W Φ FA CA O
  refine ⟨_, pi_range1 (glx O hk) (O.gi _ _ hg) (pa_cons h1 pa_nil (plain_star hp [] X.env)) (plain_star hp [] X.env), fun Z σ H ρ F Q S p => ?_⟩
  rw [evIt] at p
  refine h2.toV Z σ H ρ F _ S (p.bind.imp fun s H1 ρ1 F1 e1 S1 k1 x1 r1 => ?_)
  obtain ⟨ds, es, k2⟩ := k1.ofO
  obtain ⟨i, j, e1, e2, _, _, h3, h4, rfl⟩ := rng_of es
  cases e1
  rw [e2] at r1
  cases r1
  refine ⟨j, rfl, h3, h4, ?_⟩
  have := k2.here S1 _ itd_rng
  rw [Int.sub_zero] at this
  exact this
theorem it_rng {ca cb : E} (hk : kindIs C.sc "range" .globalImplicit = true) (hg : C.gi "range" = some .blt) (ha : SE C a ca) (hb : SE C b cb) (hp : plainE a = true) (hp2 : plainE b = true) : SIt C tg (.Call (.Name "range" p) [a, b] [] pos) (.rng ca cb) := fun X W Φ FA CA O => by
  obtain ⟨ta, a1, a2⟩ := ha X W Φ FA CA O
  obtain ⟨tb, b1, b2⟩ := hb X W Φ FA CA O
  refine ⟨_, pi_range2 (glx O hk) (O.gi _ _ hg) (pa_cons a1 (pa_cons b1 pa_nil (plain_star hp2 [] X.env)) (plain_star hp [b] X.env)) (by rw [plain_star hp, plain_star hp2]; rfl) (plain_star hp2 [] X.env), fun Z σ H ρ F Q S p => ?_⟩
  rw [evIt] at p
  refine a2.toV Z σ H ρ F _ S (p.bind.imp fun s H1 ρ1 F1 e1 S1 k1 x1 r1 => ?_)
  refine b2.toV Z σ H1 ρ1 F1 _ S1 (k1.bind.imp fun s' H2 ρ2 F2 e2 S2 k2 x2 r2 => ?_)
  obtain ⟨ds, es, k3⟩ := k2.ofO
  obtain ⟨i, j, e3, e4, h1, h2, h3, h4, rfl⟩ := rng_of es
  rw [e3] at r1
  rw [e4] at r2
  cases r1
  cases r2
  exact ⟨i, j, rfl, ⟨h1, h2, h3, h4⟩, k3.here S2 _ itd_rng⟩
theorem it_rng3 {ca cb cc : E} (hk : kindIs C.sc "range" .globalImplicit = true) (hg : C.gi "range" = some .blt) (ha : SE C a ca) (hb : SE C b cb) (hc : SE C c cc) (hp : plainE a = true) (hp2 : plainE b = true) (hp3 : plainE c = true) : SIt C tg (.Call (.Name "range" p) [a, b, c] [] pos) (.rng3 ca cb cc) := fun X W Φ FA CA O => by
  obtain ⟨ta, a1, a2⟩ := ha X W Φ FA CA O
  obtain ⟨tb, b1, b2⟩ := hb X W Φ FA CA O
  obtain ⟨tc, c1, c2⟩ := hc X W Φ FA CA O
  refine ⟨_, pi_range3 (glx O hk) (O.gi _ _ hg) (pa_cons a1 (pa_cons b1 (pa_cons c1 pa_nil (plain_star hp3 [] X.env)) (plain_star hp2 [c] X.env)) (plain_star hp [b, c] X.env)) (plain_star hp [b, c] X.env) (by rw [plain_star hp2, plain_star hp3]; rfl), fun Z σ H ρ F Q S p => ?_⟩
  rw [evIt] at p
  refine a2.toV Z σ H ρ F _ S (p.bind.imp fun s H1 ρ1 F1 e1 S1 k1 x1 r1 => ?_)
  refine b2.toV Z σ H1 ρ1 F1 _ S1 (k1.bind.imp fun s' H2 ρ2 F2 e2 S2 k2 x2 r2 => ?_)
  refine c2.toV Z σ H2 ρ2 F2 _ S2 (k2.bind.imp fun s'' H3 ρ3 F3 e3 S3 k3 x3 r3 => ?_)
  obtain ⟨ds, es, k4⟩ := k3.ofO
  cases hd1 : s.d <;> cases hd2 : s'.d <;> cases hd3 : s''.d <;> (rw [hd1, hd2, hd3] at es; first | (cases es; done) | skip)
  rename_i i j k
  have es : (if rng62 i && rng62 j && decide (k = -1) then some (rngD i (i - j).toNat) else none) = some ds := es
  by_cases q : (rng62 i && rng62 j && decide (k = -1)) = true
  · rw [if_pos q] at es
    cases es
    simp only [Bool.and_eq_true, decide_eq_true_eq, rng62_iff] at q
    obtain ⟨q, rfl⟩ := q
    rw [hd1] at r1
    rw [hd2] at r2
    rw [hd3] at r3
    cases r1
    cases r2
    cases r3
    exact ⟨i, j, -1, _, rfl, RgC.neg (by omega) (by omega) (by omega) (by omega), k4.here S3 _ itd_rng3⟩
  · rw [if_neg q] at es
    cases es
theorem it_enum {ce : E} {elts : List Expr} {kk : Nat} {tpos : Pos} (hk : kindIs C.sc "enumerate" .globalImplicit = true) (hg : C.gi "enumerate" = some .blt) (h : SE C e ce) (hp : plainE e = true) : SIt C (.Tuple elts kk tpos) (.Call (.Name "enumerate" p) [e] [] pos) (.enum ce) := fun X W Φ FA CA O => by
  obtain ⟨t, h1, h2⟩ := h X W Φ FA CA O
  refine ⟨_, pi_enum (glx O hk) (O.gi _ _ hg) (pa_cons h1 pa_nil (plain_star hp [] X.env)) (plain_star hp [] X.env), fun Z σ H ρ F Q S p => ?_⟩
  rw [evIt] at p
  refine h2.toV Z σ H ρ F _ S (p.bind.imp fun s H1 ρ1 F1 e1 S1 k1 x1 r1 => ?_)
  obtain ⟨ds, es, k2⟩ := k1.ofO
  have k3 := k2.here S1
  cases hd : s.d with
  | lst ds' =>
    rw [hd] at es r1
    cases es
    cases r1 with | lst h r => exact ⟨_, _, rfl, .inl (.inl (S1.sub _ _ h)), k3 _ (itd_enum (.inl (.inl h)) r)⟩
  | _ => rw [hd] at es; cases es
theorem it_zip {ca cb : E} {elts : List Expr} {kk : Nat} {tpos : Pos} (hk : kindIs C.sc "zip" .globalImplicit = true) (hg : C.gi "zip" = some .blt) (ha : SE C a ca) (hb : SE C b cb) (hp : plainE a = true) (hp2 : plainE b = true) : SIt C (.Tuple elts kk tpos) (.Call (.Name "zip" p) [a, b] [] pos) (.zip ca cb) := fun X W Φ FA CA O => by
  obtain ⟨ta, a1, a2⟩ := ha X W Φ FA CA O
  obtain ⟨tb, b1, b2⟩ := hb X W Φ FA CA O
  refine ⟨_, RZ.pi_zipA (glx O hk) (O.gi _ _ hg) (pa_cons a1 (pa_cons b1 pa_nil (plain_star hp2 [] X.env)) (plain_star hp [b] X.env)) (plain_star hp [b] X.env) (by rw [plain_star hp2]; rfl), fun Z σ H ρ F Q S p => ?_⟩
  rw [evIt] at p
  refine a2.toV Z σ H ρ F _ S (p.bind.imp fun s H1 ρ1 F1 e1 S1 k1 x1 r1 => ?_)
  refine b2.toV Z σ H1 ρ1 F1 _ S1 (k1.bind.imp fun s' H2 ρ2 F2 e2 S2 k2 x2 r2 => ?_)
  obtain ⟨ds, es, k3⟩ := k2.ofO
  have k4 := k3.here S2
  cases hd : s.d with
  | lst xs =>
    rw [hd] at es r1
    cases hd2 : s'.d with
    | lst ys =>
      rw [hd2] at es r2
      cases es
      cases r1 with
      | lst h r =>
        cases r2 with
        | lst h' r' => exact ⟨_, _, _, _, rfl, .inl ⟨.inl (.inl (S2.sub _ _ (e2.sub _ _ h))), .inl (.inl (S2.sub _ _ h')), k4 _ (itd_zip (.inl (.inl (e2.sub _ _ h))) (r.mono e2.sub) (.inl (.inl h')) r')⟩⟩
    | _ => rw [hd2] at es; cases es
  | tup xs =>
    rw [hd] at es r1
    cases hd2 : s'.d with
    | tup ys =>
      rw [hd2] at es r2
      cases es
      cases r1 with
      | tup h r =>
        cases r2 with
        | tup h' r' => exact ⟨_, _, _, _, rfl, .inr ⟨S2.sub.sqT (e2.sub.sqT h), S2.sub.sqT h', k4 _ (itd_zipT (e2.sub.sqT h) (r.mono e2.sub) h' r')⟩⟩
    | _ => rw [hd2] at es; cases es
  | _ => rw [hd] at es; cases es
theorem it_rev {ce : E} (hk : kindIs C.sc "reversed" .globalImplicit = true) (hg : C.gi "reversed" = some .blt) (h : SE C e ce) (hp : plainE e = true) : SIt C tg (.Call (.Name "reversed" p) [e] [] pos) (.rev ce) := fun X W Φ FA CA O => by
  obtain ⟨t, h1, h2⟩ := h X W Φ FA CA O
  refine ⟨_, RT.pi_revA (glx O hk) (O.gi _ _ hg) h1 (plain_star hp [] X.env), fun Z σ H ρ F Q S p => ?_⟩
  rw [evIt] at p
  refine h2.toV Z σ H ρ F _ S (p.bind.imp fun s H1 ρ1 F1 e1 S1 k1 x1 r1 => ?_)
  obtain ⟨ds, es, k2⟩ := k1.ofO
  have k3 := k2.here S1
  cases hd : s.d with
  | lst ds' =>
    rw [hd] at es r1
    cases es
    cases r1 with | lst h r => exact ⟨_, _, rfl, .inl ⟨.inl (.inl (S1.sub _ _ h)), k3 _ (itd_rev (.inl (.inl h)) r)⟩⟩
  | tup ds' =>
    rw [hd] at es r1
    cases es
    cases r1 with | tup h r => exact ⟨_, _, rfl, .inr ⟨S1.sub.sqT h, k3 _ (itd_revT h r)⟩⟩
  | _ => rw [hd] at es; cases es

/-! ### targets -/
def Fixd (fx : Nat → Bool) (σ σ' : St) : Prop := ∀ i, fx i = true → σ'[i]? = σ[i]?
theorem Fixd.refl {fx : Nat → Bool} {σ : St} : Fixd fx σ σ := fun _ _ => rfl
theorem Fixd.trans {fx : Nat → Bool} {σ σ1 σ2 : St} (a : Fixd fx σ σ1) (b : Fixd fx σ1 σ2) : Fixd fx σ σ2 := fun i h => (b i h).trans (a i h)
theorem Fixd.set {fx : Nat → Bool} {σ : St} {i : Nat} {x : Option V} (h : fx i = false) : Fixd fx σ (σ.set i x) := fun j hj => by
  rw [List.getElem?_set_ne fun e => by rw [e, hj] at h; cases h]
def RdG (K : PySem.W.Frag) (FA : Nat → Option Addr) (fx : Nat → Bool) (g : TG) (tg : Tg) : Prop := ∀ Z σ H ρ F x s ρ' (Q : St → Hp → Prop), SR K FA Z σ H ρ F → RX K FA Z σ ρ F H x s → asg tg s ρ = some ρ' →
  (∀ σ' H' F', Ext Z F H F' H' → SR K FA Z σ' H' ρ' F' → Fixd fx σ σ' → Q σ' H') → g x σ H Q
def RdGs (K : PySem.W.Frag) (FA : Nat → Option Addr) (fx : Nat → Bool) (g : TGs) (tgs : List Tg) : Prop := ∀ Z σ H ρ F xs ds ρ' (Q : St → Hp → Prop), SR K FA Z σ H ρ F → Rps K FA F xs ds → asgs tgs ds ρ = some ρ' →
  (∀ σ' H' F', Ext Z F H F' H' → SR K FA Z σ' H' ρ' F' → Fixd fx σ σ' → Q σ' H') → g xs σ H Q
def SG (C : CC) (e : Expr) (tg : Tg) : Prop := ∀ X W Φ FA CA, Ok C X W Φ FA CA → ∃ g, PG X e g ∧ RdG X.K FA C.fx g tg
def SGs (C : CC) (es : List Expr) (tgs : List Tg) : Prop := ∀ X W Φ FA CA, Ok C X W Φ FA CA → ∃ g, PGs X es g ∧ RdGs X.K FA C.fx g tgs
/-- a name of the def at place i that may be stored -/
def locB (C : CC) (x : Str) (i : Nat) : Bool := decide (C.N[i]? = some x) && (kindIs C.sc x .local || (kindIs C.sc x .cell && C.fnb x)) && !C.fx i
theorem loc_of {x : Str} {i : Nat} (h : locB C x i = true) : C.N[i]? = some x ∧ Loc C.sc x ∧ (C.fnb x = true ∨ C.sc.names.lookup x = some .local) ∧ C.fx i = false := by
  unfold locB at h
  simp only [Bool.and_eq_true, Bool.or_eq_true, decide_eq_true_eq, Bool.not_eq_true'] at h
  obtain ⟨⟨h1, h2⟩, h3⟩ := h
  rcases h2 with h2 | ⟨h2, h4⟩
  · exact ⟨h1, .inl (kind_of h2), .inr (kind_of h2), h3⟩
  · exact ⟨h1, .inr (kind_of h2), .inl h4, h3⟩
theorem g_nm {x : Str} {i : Nat} (h : locB C x i = true) : SG C (.Name x pos) (.nm i) := fun X W Φ FA CA O => by
  obtain ⟨h1, h2, h3, h4⟩ := loc_of h
  refine ⟨_, pg_name (i := i) (by rw [O.N]; exact O.nd) (by rw [O.N]; exact h1) (by rw [O.sc]; exact h2) (h3.imp (O.fnb x) fun z => by rw [O.sc]; exact z), fun Z σ H ρ F x s ρ' Q S r e q => ?_⟩
  cases e
  exact q _ H F .refl (S.store r) (.set h4)
theorem _root_.L2.PG.or {X : Cx} {e : Expr} {g g' : TG} (h : PG X e g) (h' : PG X e g') : PG X e (fun v σ H Q => g v σ H Q ∨ g' v σ H Q) :=
  ⟨fun pins s σ H v u Q I r w => w.elim (h.run pins s σ H v u Q I r) (h'.run pins s σ H v u Q I r)⟩
theorem gs_nil : SGs C [] [] := fun X W Φ FA CA O => ⟨_, pgs_nil, fun Z σ H ρ F xs ds ρ' Q S r e q => by
  cases r with
  | nil =>
    cases e
    exact ⟨rfl, q σ H F .refl S .refl⟩
  | cons r rs => cases e⟩
def plainG : Expr → Bool
  | .Starred .. => false
  | _ => true
theorem gs_cons {es : List Expr} {t : Tg} {ts : List Tg} (hp : plainG e = true) (h1 : SG C e t) (h2 : SGs C es ts) : SGs C (e :: es) (t :: ts) := fun X W Φ FA CA O => by
  obtain ⟨g, g1, g2⟩ := h1 X W Φ FA CA O
  obtain ⟨gs, gs1, gs2⟩ := h2 X W Φ FA CA O
  refine ⟨_, pgs_cons g1 gs1 (by cases e <;> first | rfl | cases hp), fun Z σ H ρ F xs ds ρ' Q S r e q => ?_⟩
  cases r with
  | nil => cases e
  | @cons v vs d ds r rs =>
    have e : ((asg t (.v d) ρ).bind fun ρ => asgs ts ds ρ) = some ρ' := e
    obtain ⟨ρ1, e1, e2⟩ := Option.bind_eq_some_iff.mp e
    refine ⟨v, vs, rfl, g2 Z σ H ρ F v (.v d) ρ1 _ S (.v r) e1 fun σ1 H1 F1 x1 S1 f1 => ?_⟩
    exact gs2 Z σ1 H1 ρ1 F1 vs ds ρ' Q S1 (rs.mono x1.sub) e2 fun σ2 H2 F2 x2 S2 f2 => q σ2 H2 F2 (x1.trans x2) S2 (f1.trans f2)
theorem g_tup {es : List Expr} {k : Nat} {ts : List Tg} (h : SGs C es ts) (hl : es.length = ts.length) (hn : ∀ env, (assignEach es env).length = es.length) (hst : ∀ env, (assignEach es env).findIdx? (·.1) = none) : SG C (.Tuple es k pos) (.tup ts) := fun X W Φ FA CA O => by
  obtain ⟨g, g1, g2⟩ := h X W Φ FA CA O
  refine ⟨_, (pg_tup O.calm g1 (hn X.env) (hst X.env)).or (pg_unl O.calm g1 (hn X.env) (hst X.env)), fun Z σ H ρ F x s ρ' Q S r e q => ?_⟩
  obtain ⟨F1, x1, S1, r1⟩ := r.toV S
  rw [asg] at e
  obtain ⟨ds, hu, e⟩ := Option.bind_eq_some_iff.mp e
  have len : ∀ (ts : List Tg) (ds : List D) (ρ ρ' : Env), asgs ts ds ρ = some ρ' → ds.length = ts.length := by
    intro ts
    induction ts with
    | nil =>
      intro ds ρ ρ' e
      cases ds with
      | nil => rfl
      | cons _ _ => cases e
    | cons t ts ih =>
      intro ds ρ ρ' e
      cases ds with
      | nil => cases e
      | cons d ds =>
        have e : ((asg t (.v d) ρ).bind fun ρ => asgs ts ds ρ) = some ρ' := e
        obtain ⟨ρ1, e1, e2⟩ := Option.bind_eq_some_iff.mp e
        exact congrArg (· + 1) (ih ds ρ1 ρ' e2)
  cases hd : s.d with
  | tup ds' =>
    rw [hd] at r1 hu
    cases hu
    cases r1 with
    | tup hq rs =>
      exact .inl ⟨_, _, rfl, S1.sub.sqT hq, by rw [rs.length, hl]; exact len ts _ ρ ρ' e, g2 Z σ H ρ F1 _ _ ρ' Q S1 rs e fun σ2 H2 F2 x2 S2 f2 => q σ2 H2 F2 (x1.trans x2) S2 f2⟩
  | lst ds' =>
    rw [hd] at r1 hu
    cases hu
    cases r1 with
    | lst hq rs =>
      exact .inr ⟨_, _, rfl, .inl (.inl (S1.sub _ _ hq)), by rw [rs.length, hl]; exact len ts _ ρ ρ' e, g2 Z σ H ρ F1 _ _ ρ' Q S1 rs e fun σ2 H2 F2 x2 S2 f2 => q σ2 H2 F2 (x1.trans x2) S2 f2⟩
  | _ => rw [hd] at hu; cases hu

/-! ### what is wanted behind a statement -/
def PoS (K : PySem.W.Frag) (FA CA : Nat → Option Addr) (W : WX) (fx : Nat → Bool) (Z : Addr → Prop) (σ : St) (H F : Hp) (o : O) (D : Ends) : Prop :=
  match o with
  | .nx ρ' => ∀ σ' H' F', Ext Z F H F' H' → SR K FA Z σ' H' ρ' F' → Fixd fx σ σ' → D.nx σ' H'
  | .rt s ρ' => ∀ x σ' H' F', Ext Z F H F' H' → SR K FA Z σ' H' ρ' F' → Fixd fx σ σ' → RX K FA Z σ' ρ' F' H' x s → D.rt x H'
  | .bk ρ' => ∀ σ' H' F', Ext Z F H F' H' → SR K FA Z σ' H' ρ' F' → Fixd fx σ σ' → D.bk σ' H'
  | .ct ρ' => ∀ σ' H' F', Ext Z F H F' H' → SR K FA Z σ' H' ρ' F' → Fixd fx σ σ' → D.ct σ' H'
  | .ex e ρ' => ∀ σ' H' F', Ext Z F H F' H' → SR K FA Z σ' H' ρ' F' → Fixd fx σ σ' → WEx CA W e σ' H'
  | .bad => False
def RdS (K : PySem.W.Frag) (FA CA : Nat → Option Addr) (W : WX) (fx : Nat → Bool) (t : TS) (c : Env → O) : Prop := ∀ Z σ H ρ F D, SR K FA Z σ H ρ F → PoS K FA CA W fx Z σ H F (c ρ) D → t D σ H
def SS (C : CC) (st : Stmt) (c : S) : Prop := ∀ X W Φ FA CA, Ok C X W Φ FA CA → ∃ t, PS X st t ∧ RdS X.K FA CA W C.fx t (evS Φ c)
def SSs (C : CC) (st : List Stmt) (c : Ss) : Prop := ∀ X W Φ FA CA, Ok C X W Φ FA CA → ∃ t, PSs X st t ∧ RdS X.K FA CA W C.fx t (evSs Φ c)
section
variable {K : PySem.W.Frag} {FA CA : Nat → Option Addr} {W : WX} {fx : Nat → Bool} {Z : Addr → Prop} {σ σ1 : St} {H F H1 F1 : Hp} {ρ : Env} {α : Type} {D : Ends}
theorem PoS.shift {o : O} (p : PoS K FA CA W fx Z σ H F o D) (e : Ext Z F H F1 H1) (f : Fixd fx σ σ1) : PoS K FA CA W fx Z σ1 H1 F1 o D := by
  cases o with
  | nx ρ' => exact fun σ' H' F' e' S f' => p σ' H' F' (e.trans e') S (f.trans f')
  | rt s ρ' => exact fun x σ' H' F' e' S f' => p x σ' H' F' (e.trans e') S (f.trans f')
  | bk ρ' => exact fun σ' H' F' e' S f' => p σ' H' F' (e.trans e') S (f.trans f')
  | ct ρ' => exact fun σ' H' F' e' S f' => p σ' H' F' (e.trans e') S (f.trans f')
  | ex x ρ' => exact fun σ' H' F' e' S f' => p σ' H' F' (e.trans e') S (f.trans f')
  | bad => exact p
theorem PoS.stm {r : R α} {f : α → Env → O} (p : PoS K FA CA W fx Z σ H F (r.stm f) D) : Po K FA CA W Z σ H F r fun a H1 ρ1 F1 => PoS K FA CA W fx Z σ H1 F1 (f a ρ1) D := by
  cases r with
  | ok a ρ' => exact fun H' F' e S => p.shift e .refl
  | ex x ρ' => exact fun H' F' e S => p σ H' F' e S .refl
  | bad => exact p
end
theorem ss_nil : SSs C [] .nil := fun X W Φ FA CA O => ⟨_, pss_nil, fun Z σ H ρ F D S p => by
  rw [evSs] at p
  exact p σ H F .refl S .refl⟩
theorem ss_cons {st : Stmt} {sts : List Stmt} {cs : Rf.S} {css : Ss} (h1 : SS C st cs) (h2 : SSs C sts css) : SSs C (st :: sts) (.cons cs css) := fun X W Φ FA CA O => by
  obtain ⟨t, t1, t2⟩ := h1 X W Φ FA CA O
  obtain ⟨u, u1, u2⟩ := h2 X W Φ FA CA O
  refine ⟨_, pss_cons t1 u1, fun Z σ H ρ F D S p => ?_⟩
  rw [evSs] at p
  refine t2 Z σ H ρ F _ S ?_
  cases ho : evS Φ cs ρ with
  | nx ρ1 =>
    rw [ho] at p
    exact fun σ1 H1 F1 e1 S1 f1 => u2 Z σ1 H1 ρ1 F1 D S1 (PoS.shift p e1 f1)
  | rt s ρ1 => rw [ho] at p; exact p
  | bk ρ1 => rw [ho] at p; exact p
  | ct ρ1 => rw [ho] at p; exact p
  | ex x ρ1 => rw [ho] at p; exact p
  | bad => rw [ho] at p; exact p
theorem st_pass : SS C (.Pass pos) .pass := fun X W Φ FA CA O => ⟨_, ps_pass, fun Z σ H ρ F D S p => by
  rw [evS] at p
  exact p σ H F .refl S .refl⟩
theorem st_brk : SS C (.Break pos) .brk := fun X W Φ FA CA O => ⟨_, ps_break, fun Z σ H ρ F D S p => by
  rw [evS] at p
  exact p σ H F .refl S .refl⟩
theorem st_cont : SS C (.Continue pos) .cont := fun X W Φ FA CA O => ⟨_, ps_continue, fun Z σ H ρ F D S p => by
  rw [evS] at p
  exact p σ H F .refl S .refl⟩
/-- no comprehension, whose value is dropped or stored at once -/
def noComp : Expr → Bool
  | .ListComp .. => false
  | .SetComp .. => false
  | .DictComp .. => false
  | _ => true
theorem noComp_sw (h : noComp e = true) (t : Option Expr) (l : Nat) (env : PySem.Env) : swapsWith e t l env = pure false := by
  cases e <;> first | rfl | cases h
theorem st_ex {ce : E} (h : SE C e ce) (hn : noComp e = true) : SS C (.Expr e pos) (.ex ce) := fun X W Φ FA CA O => by
  obtain ⟨t, t1, t2⟩ := h X W Φ FA CA O
  refine ⟨_, ps_expr t1 (noComp_sw hn _ _ _), fun Z σ H ρ F D S p => ?_⟩
  rw [evS] at p
  exact t2.toV Z σ H ρ F _ S (p.stm.imp fun s H1 ρ1 F1 e1 S1 k x r => k σ H1 F1 .refl S1 .refl)
theorem st_ret {ce : E} (h : SE C e ce) : SS C (.Return (some e) pos) (.ret ce) := fun X W Φ FA CA O => by
  obtain ⟨t, t1, t2⟩ := h X W Φ FA CA O
  refine ⟨_, ps_ret t1, fun Z σ H ρ F D S p => ?_⟩
  rw [evS] at p
  exact t2 Z σ H ρ F _ S (p.stm.imp fun s H1 ρ1 F1 e1 S1 k x r => k x σ H1 F1 .refl S1 .refl r)
theorem st_retn : SS C (.Return none pos) .retn := fun X W Φ FA CA O => ⟨_, ps_retN, fun Z σ H ρ F D S p => by
  rw [evS] at p
  exact p .non σ H F .refl S .refl (.v .non)⟩
theorem st_ite {t : Expr} {ct : T} {xs ys : List Stmt} {cx cy : Ss} (ht : ST C t ct) (h1 : SSs C xs cx) (h2 : SSs C ys cy) : SS C (.If t xs ys pos) (.ite ct cx cy) := fun X W Φ FA CA O => by
  obtain ⟨tt, tt1, tt2⟩ := ht X W Φ FA CA O
  obtain ⟨t, t1, t2⟩ := h1 X W Φ FA CA O
  obtain ⟨u, u1, u2⟩ := h2 X W Φ FA CA O
  refine ⟨_, ps_if tt1 t1 u1, fun Z σ H ρ F D S p => ?_⟩
  rw [evS] at p
  refine tt2 Z σ H ρ F _ S (p.stm.imp fun b H1 ρ1 F1 e1 S1 k => ?_)
  cases b with
  | true => exact t2 Z σ H1 ρ1 F1 D S1 k
  | false => exact u2 Z σ H1 ρ1 F1 D S1 k
/-- no comprehension that a plain local name is given -/
def swOk (sc : Scope) (tg e : Expr) : Bool := noComp e || (match tg with | .Name n _ => kindIs sc n .cell | _ => true)
theorem swOk_sw {sc : Scope} {env : PySem.Env} {l : Nat} (he : env.scope = sc) (h : swOk sc tg e = true) : swapsWithSole [tg] e l env = pure false := by
  show swapsWith e (some tg) l env = pure false
  unfold swOk at h
  rw [Bool.or_eq_true] at h
  rcases h with h | h
  · exact noComp_sw h _ _ _
  · cases tg with
    | Name n p =>
      have hk : env.kindOf n = some .cell := by
        show env.scope.names.lookup n = _
        rw [he]
        exact kind_of h
      cases e <;> first | rfl | (unfold swapsWith; simp [hk, show (NameKind.cell == NameKind.local) = false from rfl])
    | _ => cases e <;> rfl
theorem st_asg {ce : E} {tg' : Tg} (h : SE C e ce) (hg : SG C tg tg') (hn : swOk C.sc tg e = true) (hw : ∀ X W Φ FA CA, Ok C X W Φ FA CA → swappedStores [tg] e X.env = pure none) (hp : plainG tg = true) : SS C (.Assign [tg] e pos) (.asg tg' ce) := fun X W Φ FA CA O => by
  obtain ⟨t, t1, t2⟩ := h X W Φ FA CA O
  obtain ⟨g, g1, g2⟩ := hg X W Φ FA CA O
  refine ⟨_, ps_asg t1 g1 (swOk_sw O.sc hn) (hw X W Φ FA CA O) (by cases tg <;> first | rfl | cases hp), fun Z σ H ρ F D S p => ?_⟩
  rw [evS] at p
  refine t2 Z σ H ρ F _ S (p.stm.imp fun s H1 ρ1 F1 e1 S1 k x r => ?_)
  cases ha : asg tg' s ρ1 with
  | none =>
    rw [ha] at k
    exact k.elim
  | some ρ2 =>
    rw [ha] at k
    exact g2 Z σ H1 ρ1 F1 x s ρ2 _ S1 r ha fun σ2 H2 F2 e2 S2 f2 => k σ2 H2 F2 e2 S2 f2
theorem st_whl {t : Expr} {ct : T} {xs : List Stmt} {cx : Ss} (ht : ST C t ct) (h1 : SSs C xs cx) : SS C (.While t xs [] pos) (.whl ct cx) := fun X W Φ FA CA O => by
  obtain ⟨tt, tt1, tt2⟩ := ht X W Φ FA CA O
  obtain ⟨b, b1, b2⟩ := h1 X W Φ FA CA O
  refine ⟨_, ps_while O.po tt1 b1, fun Z σ H ρ F D S p => ?_⟩
  rw [evS] at p
  refine ⟨fun n σ1 H1 => ∃ ρ1 F1, Ext Z F H F1 H1 ∧ Fixd C.fx σ σ1 ∧ SR X.K FA Z σ1 H1 ρ1 F1 ∧ PoS X.K FA CA W C.fx Z σ1 H1 F1 (whL (evT Φ ct) (evSs Φ cx) n ρ1) D, ⟨FUEL, ρ, F, .refl, .refl, S, p⟩, ?_⟩
  rintro n σ1 H1 ⟨ρ1, F1, e1, f1, S1, p1⟩
  cases n with
  | zero => exact p1.elim
  | succ n =>
    rw [whL] at p1
    refine tt2 Z σ1 H1 ρ1 F1 _ S1 (p1.stm.imp fun c H2 ρ2 F2 e2 S2 k => ?_)
    cases c with
    | false => exact k σ1 H2 F2 .refl S2 .refl
    | true =>
      rw [if_pos rfl] at k ⊢
      refine ⟨fun σ3 H3 => ∃ ρ3 F3, Ext Z F H F3 H3 ∧ Fixd C.fx σ σ3 ∧ SR X.K FA Z σ3 H3 ρ3 F3 ∧ PoS X.K FA CA W C.fx Z σ3 H3 F3 (whL (evT Φ ct) (evSs Φ cx) n ρ3) D, fun σ3 H3 ⟨ρ3, F3, h⟩ => ⟨n, Nat.lt_succ_self n, ρ3, F3, h⟩, ?_⟩
      refine b2 Z σ1 H2 ρ2 F2 _ S2 ?_
      cases ho : evSs Φ cx ρ2 with
      | nx ρ3 =>
        rw [ho] at k
        exact fun σ3 H3 F3 e3 S3 f3 => ⟨ρ3, F3, e1.trans (e2.trans e3), f1.trans f3, S3, PoS.shift k e3 f3⟩
      | ct ρ3 =>
        rw [ho] at k
        exact fun σ3 H3 F3 e3 S3 f3 => ⟨ρ3, F3, e1.trans (e2.trans e3), f1.trans f3, S3, PoS.shift k e3 f3⟩
      | bk ρ3 => rw [ho] at k; exact k
      | rt s ρ3 => rw [ho] at k; exact k
      | ex x ρ3 => rw [ho] at k; exact k
      | bad => rw [ho] at k; exact k
theorem st_fr {cit : Ir} {tg' : Tg} {xs : List Stmt} {cx : Ss} (hi : SIt C tg e cit) (hg : SG C tg tg') (h1 : SSs C xs cx) (hp : plainE e = true) : SS C (.For tg e xs [] pos) (.fr tg' cit cx) := fun X W Φ FA CA O => by
  obtain ⟨wi, w1, w2⟩ := hi X W Φ FA CA O
  obtain ⟨g, g1, g2⟩ := hg X W Φ FA CA O
  obtain ⟨b, b1, b2⟩ := h1 X W Φ FA CA O
  refine ⟨_, ps_for O.po O.calm w1 g1 b1 (plain_fold hp X.env), fun Z σ H ρ F D S p => ?_⟩
  rw [evS] at p
  refine w2 Z σ H ρ F _ S (p.stm.imp fun ds H1 ρ1 F1 e1 S1 k J hJ => ?_)
  refine ⟨fun i m σ2 H2 => m = ds.length - i ∧ i ≤ ds.length ∧ ∃ ρ2 F2, Ext Z F1 H1 F2 H2 ∧ Fixd C.fx σ σ2 ∧ SR X.K FA Z σ2 H2 ρ2 F2 ∧ PoS X.K FA CA W C.fx Z σ2 H2 F2 (forL tg' (evSs Φ cx) (ds.drop i) ρ2) D,
    ⟨ds.length, rfl, Nat.zero_le _, ρ1, F1, .refl, .refl, S1, k⟩, ?_⟩
  rintro i m σ2 H2 ⟨rfl, hi, ρ2, F2, e2, f2, S2, p2⟩
  obtain ⟨j1, j2⟩ := hJ i H2 F2 e2.sub S2.sub
  by_cases hlt : i < ds.length
  · have hd : ds[i]? = some ds[i] := List.getElem?_eq_getElem hlt
    obtain ⟨go, yl⟩ := j2 _ hd
    rw [List.drop_eq_getElem_cons hlt, forL] at p2
    cases ha : asg tg' (.v ds[i]) ρ2 with
    | none =>
      rw [ha] at p2
      exact p2.elim
    | some ρ3 =>
      rw [ha] at p2
      dsimp only at p2
      refine .inr ⟨go, fun σ4 H4 => ∃ ρ4 F4, Ext Z F1 H1 F4 H4 ∧ Fixd C.fx σ σ4 ∧ SR X.K FA Z σ4 H4 ρ4 F4 ∧ PoS X.K FA CA W C.fx Z σ4 H4 F4 (forL tg' (evSs Φ cx) (ds.drop (i + 1)) ρ4) D, fun σ4 H4 ⟨ρ4, F4, h⟩ => ⟨ds.length - (i + 1), by omega, rfl, hlt, ρ4, F4, h⟩, fun x H3 y => ?_⟩
      have turn : ∀ F3, Ext Z F2 H2 F3 H3 → SR X.K FA Z σ2 H3 ρ2 F3 → Rp X.K FA F3 x ds[i] → g x σ2 H3 fun σ5 H5 => b { D with nx := fun σ4 H4 => ∃ ρ4 F4, Ext Z F1 H1 F4 H4 ∧ Fixd C.fx σ σ4 ∧ SR X.K FA Z σ4 H4 ρ4 F4 ∧ PoS X.K FA CA W C.fx Z σ4 H4 F4 (forL tg' (evSs Φ cx) (ds.drop (i + 1)) ρ4) D, ct := fun σ4 H4 => ∃ ρ4 F4, Ext Z F1 H1 F4 H4 ∧ Fixd C.fx σ σ4 ∧ SR X.K FA Z σ4 H4 ρ4 F4 ∧ PoS X.K FA CA W C.fx Z σ4 H4 F4 (forL tg' (evSs Φ cx) (ds.drop (i + 1)) ρ4) D, bk := D.nx } σ5 H5 := fun F3 e3 S3 r3 => by
        refine g2 Z σ2 H3 ρ2 F3 x (.v ds[i]) ρ3 _ S3 (.v r3) ha fun σ5 H5 F5 e5 S5 f5 => ?_
        refine b2 Z σ5 H5 ρ3 F5 _ S5 ?_
        have p3 := PoS.shift (σ1 := σ5) p2 (e3.trans e5) f5
        cases ho : evSs Φ cx ρ3 with
        | nx ρ6 =>
          rw [ho] at p3
          exact fun σ6 H6 F6 e6 S6 f6 => ⟨ρ6, F6, e2.trans (e3.trans (e5.trans e6)), f2.trans (f5.trans f6), S6, PoS.shift p3 e6 f6⟩
        | ct ρ6 =>
          rw [ho] at p3
          exact fun σ6 H6 F6 e6 S6 f6 => ⟨ρ6, F6, e2.trans (e3.trans (e5.trans e6)), f2.trans (f5.trans f6), S6, PoS.shift p3 e6 f6⟩
        | bk ρ6 => rw [ho] at p3; exact p3
        | rt s ρ6 => rw [ho] at p3; exact p3
        | ex x ρ6 => rw [ho] at p3; exact p3
        | bad => rw [ho] at p3; exact p3
      rcases yl x H3 y with ⟨rfl, r⟩ | ⟨p, o, np, rfl, r⟩
      · exact turn F2 .refl S2 r
      · obtain ⟨S3, e3⟩ := S2.grow (o := o) np
        exact turn _ e3 S3 r
  · have e : i = ds.length := by omega
    subst e
    rw [List.drop_length, forL] at p2
    exact .inl ⟨j1 (Nat.le_refl _), p2 σ2 H2 F2 .refl S2 .refl⟩
end
end Rf

set_option maxHeartbeats 1000000
/-! Rf8: comprehensions, stores, raises. -/
namespace Rf
open PySem PySem.Spec L2
section
variable {K : PySem.W.Frag} {FA CA : Nat → Option Addr} {W : WX} {Z : Addr → Prop} {σ : St} {H F : Hp} {ρ : Env}
/-- a slot without a value -/
theorem SR.unset (S : SR K FA Z σ H ρ F) (i : Nat) : SR K FA Z (σ.set i none) H (ρ.set i none) F := by
  have S1 := S.forget i
  have key : ∀ {j : Nat} {s : Sl}, (ρ.set i none)[j]? = some (some s) → (σ.set i none)[j]? = σ[j]? := fun {j s} e => by
    by_cases h : i = j
    · subst h
      rw [List.getElem?_set] at e
      simp at e
    · rw [List.getElem?_set_ne h]
  have ow : ∀ {j : Nat} {a : Addr}, owns (σ.set i none) (ρ.set i none) j a → owns σ (ρ.set i none) j a := fun {j a} ⟨e1, d, e2⟩ => ⟨by rw [← key e2]; exact e1, d, e2⟩
  refine ⟨S1.sub, S1.zf, by rw [List.length_set, List.length_set]; exact S.len, fun j s e => ?_, fun j a o => S1.oz j a (ow o), fun j k a o1 o2 => S1.dis j k a (ow o1) (ow o2)⟩
  rw [key e]
  exact S1.slot j s e
theorem SR.wipe (S : SR K FA Z σ H ρ F) : ∀ vs : List Nat, SR K FA Z (L2.wipe σ vs) H (wipeE ρ vs) F
  | [] => S
  | v :: vs => (SR.wipe S vs).unset v
theorem SR.fzs (S : SR K FA Z σ H ρ F) : ∀ vs : List Nat, ∃ F', Ext Z F H F' H ∧ SR K FA Z σ H (fzs ρ vs) F'
  | [] => ⟨F, .refl, S⟩
  | v :: vs => by
    obtain ⟨F1, e1, S1⟩ := SR.fzs S vs
    obtain ⟨F2, e2, S2, _⟩ := S1.fz v
    exact ⟨F2, e1.trans e2, S2⟩
theorem fz_len (ρ : Env) (i : Nat) : (fz ρ i).length = ρ.length := by
  unfold Rf.fz
  split <;> simp
/-- a frozen slot holds no container of its own -/
theorem fz_no {i j : Nat} {d : D} (h : (fz ρ i)[j]? = some (some (.o d))) : i ≠ j ∧ ρ[j]? = some (some (.o d)) := by
  unfold Rf.fz at h
  split at h
  · rename_i d' g
    have g' := gt_some.mp g
    have hl : i < ρ.length := (List.getElem?_eq_some_iff.mp g').1
    by_cases e : i = j
    · subst e
      rw [List.getElem?_set_self hl] at h
      cases h
    · rw [List.getElem?_set_ne e] at h
      exact ⟨e, h⟩
  · rename_i g
    refine ⟨fun e => ?_, h⟩
    subst e
    exact g d (gt_some.mpr h)
theorem fzs_no {j : Nat} {d : D} : ∀ {vs : List Nat}, (fzs ρ vs)[j]? = some (some (.o d)) → j ∉ vs ∧ ρ[j]? = some (some (.o d))
  | [], h => ⟨by simp, h⟩
  | v :: vs, h => by
    obtain ⟨h1, h2⟩ := fz_no h
    obtain ⟨h3, h4⟩ := fzs_no h2
    exact ⟨by simp only [List.mem_cons, not_or]; exact ⟨fun e => h1 e.symm, h3⟩, h4⟩
theorem restE_len (old ρ : Env) : ∀ vs : List Nat, (restE old ρ vs).length = ρ.length
  | [] => rfl
  | v :: vs => by rw [restE, List.length_set, restE_len old ρ vs]
theorem restE_in {old : Env} {j : Nat} {s : Sl} : ∀ {vs : List Nat}, (restE old ρ vs)[j]? = some (some s) → (j ∈ vs ∧ old[j]? = some (some s)) ∨ (j ∉ vs ∧ ρ[j]? = some (some s))
  | [], h => .inr ⟨by simp, h⟩
  | v :: vs, h => by
    rw [restE] at h
    by_cases e : v = j
    · subst e
      by_cases hl : v < (restE old ρ vs).length
      · rw [List.getElem?_set_self hl] at h
        refine .inl ⟨List.mem_cons_self, ?_⟩
        cases q : old[v]? with
        | none =>
          rw [q] at h
          cases h
        | some t =>
          rw [q] at h
          exact h
      · rw [List.getElem?_eq_none (by rw [List.length_set]; omega)] at h
        cases h
    · rw [List.getElem?_set_ne e] at h
      rcases restE_in h with ⟨h1, h2⟩ | ⟨h1, h2⟩
      · exact .inl ⟨List.mem_cons_of_mem _ h1, h2⟩
      · exact .inr ⟨by simp only [List.mem_cons, not_or]; exact ⟨fun q => e q.symm, h1⟩, h2⟩
theorem wipe_get {j : Nat} : ∀ {vs : List Nat}, j ∉ vs → (L2.wipe σ vs)[j]? = σ[j]?
  | [], _ => rfl
  | v :: vs, h => by
    simp only [List.mem_cons, not_or] at h
    unfold L2.wipe
    rw [List.getElem?_set_ne fun e => h.1 e.symm]
    exact wipe_get h.2
theorem wipe_in {j : Nat} (hl : j < σ.length) : ∀ {vs : List Nat}, j ∈ vs → (L2.wipe σ vs)[j]? = some none
  | v :: vs, h => by
    unfold L2.wipe
    by_cases e : v = j
    · subst e
      rw [List.getElem?_set_self (by rw [wipe_length]; exact hl)]
    · rw [List.getElem?_set_ne e]
      rcases List.mem_cons.mp h with h | h
      · exact absurd h.symm e
      · exact wipe_in hl h
theorem wipe_same {σ2 : St} {vs : List Nat} (hl : σ2.length = σ.length) (h : ∀ j, j ∉ vs → σ2[j]? = (L2.wipe σ vs)[j]?) : L2.wipe σ2 vs = L2.wipe σ vs := by
  apply List.ext_getElem?
  intro j
  by_cases hj : j ∈ vs
  · by_cases l : j < σ.length
    · rw [wipe_in (by rw [hl]; exact l) hj, wipe_in l hj]
    · rw [List.getElem?_eq_none (by rw [wipe_length]; omega), List.getElem?_eq_none (by rw [wipe_length]; omega)]
  · rw [wipe_get hj, h j hj]
/-- behind a block: its own names are what they were -/
theorem SR.rest {Z' : Addr → Prop} {H' F' : Hp} {old : Env} {vs : List Nat} (S0 : SR K FA Z σ H (Rf.fzs old vs) F) (S1 : SR K FA Z' (L2.wipe σ vs) H' ρ F') (hz : ∀ a, Z a → Z' a) (e : Sub F F') : SR K FA Z σ H' (restE (Rf.fzs old vs) ρ vs) F' := by
  have key : ∀ {j : Nat} {s : Sl}, (restE (Rf.fzs old vs) ρ vs)[j]? = some (some s) → (∃ d, s = .v d ∧ (Rf.fzs old vs)[j]? = some (some (.v d))) ∨ (j ∉ vs ∧ ρ[j]? = some (some s) ∧ (L2.wipe σ vs)[j]? = σ[j]?) := fun {j s} h => by
    rcases restE_in h with ⟨h1, h2⟩ | ⟨h1, h2⟩
    · cases s with
      | v d => exact .inl ⟨d, rfl, h2⟩
      | o d => exact absurd h1 (fzs_no h2).1
    · exact .inr ⟨h1, h2, wipe_get h1⟩
  have ow : ∀ {j : Nat} {a : Addr}, owns σ (restE (Rf.fzs old vs) ρ vs) j a → owns (L2.wipe σ vs) ρ j a := fun {j a} ⟨e1, d, e2⟩ => by
    rcases key e2 with ⟨d', h, _⟩ | ⟨h1, h2, h3⟩
    · cases h
    · exact ⟨by rw [h3]; exact e1, d, h2⟩
  refine ⟨S1.sub, fun a z => S1.zf a (hz a z), ?_, fun j s h => ?_, fun j a o z => S1.oz j a (ow o) (hz a z), fun j k a o1 o2 => S1.dis j k a (ow o1) (ow o2)⟩
  · rw [restE_len, S1.len, wipe_length]
  · rcases key h with ⟨d, rfl, h2⟩ | ⟨h1, h2, h3⟩
    · obtain ⟨x, ex, r⟩ := S0.slot j _ h2
      exact ⟨x, ex, Rp.mono e r⟩
    · obtain ⟨x, ex, r⟩ := S1.slot j s h2
      rw [h3] at ex
      exact ⟨x, ex, r⟩
end
mutual
theorem asg_len : ∀ (t : Tg) (s : Sl) (ρ ρ' : Env), asg t s ρ = some ρ' → ρ'.length = ρ.length
  | .nm i, s, ρ, ρ', h => by
    cases h
    rw [List.length_set]
  | .tup ts, s, ρ, ρ', h => by
    rw [asg] at h
    obtain ⟨ds, _, h⟩ := Option.bind_eq_some_iff.mp h
    exact asgs_len ts ds ρ ρ' h
theorem asgs_len : ∀ (ts : List Tg) (dd : List D) (ρ ρ' : Env), asgs ts dd ρ = some ρ' → ρ'.length = ρ.length
  | [], [], ρ, ρ', h => by
    cases h
    rfl
  | [], _ :: _, ρ, ρ', h => by cases h
  | _ :: _, [], ρ, ρ', h => by cases h
  | t :: ts, d :: ds, ρ, ρ', h => by
    rw [asgs] at h
    obtain ⟨ρ1, e1, e2⟩ := Option.bind_eq_some_iff.mp h
    rw [asgs_len ts ds ρ1 ρ' e2, asg_len t _ ρ ρ1 e1]
end
/-! ### comprehensions -/
section
variable {C : CC} {tg e elt iter : Expr} {pos : Pos}
/-- the block's names -/
def blkCC (C : CC) (scope : Scope) (vs : List Nat) : CC := { N := C.N, sc := relS scope C.sc, fnb := fun x => scope.names.lookup x == some .cell, gi := C.gi, fx := fun i => !vs.contains i }
def noW : WX := fun _ _ _ _ => False
theorem Ok.blk {X : Cx} {W : WX} {Φ : PhiT} {FA CA : Nat → Option Addr} (O : Ok C X W Φ FA CA) (scope : Scope) (vs : List Nat) (s : Shared) (H : Hp) (A : Addr) (cl : List (Str × Addr)) (fp : List Addr) :
    Ok (blkCC C scope vs) (X.blk s H scope (compEnvC scope cl A X.env) fp) noW Φ FA CA where
  N := O.N
  nd := O.nd
  sc := by
    show relS scope X.env.scope = relS scope C.sc
    rw [O.sc]
  calm := O.calm
  fnb := fun x h => h
  tk := fun u s' ⟨_, _, _, _, _, _, _, _, _, _, _, _, _, _, _, _, w⟩ => w
  room := O.room
  po := .never
  gi := fun x g h => by
    have q := O.gi x g h
    cases g <;> exact q
  fb := fun h => nomatch h
  xx := O.xx
  fa := O.fa
/-- what is left of the loop's run, and the list so far -/
def LcOk (K : PySem.W.Frag) (FA : Nat → Option Addr) (Z Z' : Addr → Prop) (σw : St) (L : Addr) (Q : VK) (pre : List D) (H F : Hp) (r : R (List D)) : Prop :=
  match r with
  | .ok outs ρ => ∀ H' F' acc, Ext Z F H F' H' → SR K FA Z' σw H' ρ F' → H' L = some (.lst acc) → Rps K FA F' acc (pre ++ outs) → Q (.ref L) H'
  | _ => False
theorem LcOk.shift {K : PySem.W.Frag} {FA : Nat → Option Addr} {Z Z' : Addr → Prop} {σw : St} {L : Addr} {Q : VK} {pre : List D} {H F H1 F1 : Hp} {r : R (List D)} (h : LcOk K FA Z Z' σw L Q pre H F r) (e : Ext Z F H F1 H1) : LcOk K FA Z Z' σw L Q pre H1 F1 r := by
  cases r with
  | ok outs ρ => exact fun H' F' acc e' S h1 h2 => h H' F' acc (e.trans e') S h1 h2
  | ex x ρ => exact h
  | bad => exact h
theorem LcOk.bind {K : PySem.W.Frag} {FA CA : Nat → Option Addr} {Z Z' : Addr → Prop} {σw σ2 : St} {L : Addr} {Q : VK} {pre : List D} {H F : Hp} {α : Type} {r : R α} {f : α → Env → R (List D)} (hz : ∀ a, Z a → Z' a) (h : LcOk K FA Z Z' σw L Q pre H F (r.bind f)) :
    Po K FA CA noW Z' σ2 H F r fun a H1 ρ1 F1 => LcOk K FA Z Z' σw L Q pre H1 F1 (f a ρ1) := by
  cases r with
  | ok a ρ => exact fun H' F' e S => LcOk.shift h ⟨e.sub, fun a z => e.keep a (hz a z)⟩
  | ex x ρ => exact h.elim
  | bad => exact h
theorem LcOk.cons {K : PySem.W.Frag} {FA : Nat → Option Addr} {Z Z' : Addr → Prop} {σw : St} {L : Addr} {Q : VK} {pre : List D} {d : D} {H F : Hp} {r : R (List D)} (h : LcOk K FA Z Z' σw L Q pre H F (r.bind fun ds ρ => .ok (d :: ds) ρ)) : LcOk K FA Z Z' σw L Q (pre ++ [d]) H F r := by
  cases r with
  | ok outs ρ => exact fun H' F' acc e S h1 h2 => h H' F' acc e S h1 (by rw [List.append_assoc] at h2; exact h2)
  | ex x ρ => exact h
  | bad => exact h
theorem lc_rd {X : Cx} {W : WX} {Φ : PhiT} {FA CA : Nat → Option Addr} {wi : TI} {g : TG} {tt : TT} {te : TE} {vs : List Nat} {tg' : Tg} {cit : Ir} {cc : Option T} {ce : E} (O : Ok C X W Φ FA CA)
    (h1 : RdI X.K FA CA W wi (evIt Φ cit)) (h2 : RdG X.K FA (fun i => !vs.contains i) g tg') (h3 : RdT X.K FA CA noW tt (evOT Φ cc)) (h4 : RdE X.K FA CA noW te (evE Φ ce)) : RdE X.K FA CA W (tLc wi g tt te vs) (evE Φ (.lc vs tg' cit cc ce)) := fun Z σ H ρ F Q S p => by
  rw [evE] at p
  refine h1 Z σ H ρ F _ S (p.bind.imp fun ds H1 ρ1 F1 e1 S1 k J hJ => ?_)
  unfold lcR at k
  by_cases hz : ds.length ≤ SZ
  · rw [if_pos hz] at k
    dsimp only at k
    obtain ⟨F2, e2, S2⟩ := S1.fzs vs
    intro L nL
    -- the new list
    have nF : F2 L = none := by
      cases q : F2 L with
      | none => rfl
      | some u => rw [S2.sub L u q] at nL; cases nL
    have nZ : ¬ Z L := fun z => by
      obtain ⟨_, o, e⟩ := S2.zf L z
      rw [nL] at e
      cases e
    obtain ⟨S3, e3, _, _, no⟩ := S2.grow1 (o := .lst []) nL
    have S4 := S3.wipe vs
    have zs : ∀ a, Z a → Z a ∨ a = L := fun a z => .inl z
    have addZ : ∀ {H' F' : Hp} {ρ' : Env} {σ' : St}, SR X.K FA Z σ' H' ρ' F' → F' L = none → (∃ o, H' L = some o) → (∀ i, ¬ owns σ' ρ' i L) → SR X.K FA (fun a => Z a ∨ a = L) σ' H' ρ' F' := fun {H' F' ρ' σ'} S f h o => by
      refine ⟨S.sub, fun a z => ?_, S.len, S.slot, fun i a q z => ?_, S.dis⟩
      · rcases z with z | rfl
        · exact S.zf a z
        · exact ⟨f, h⟩
      · rcases z with z | rfl
        · exact S.oz i a q z
        · exact o i q
    have noW4 : ∀ i, ¬ owns (L2.wipe σ vs) (wipeE (Rf.fzs ρ1 vs) vs) i L := fun i ⟨q1, d, q2⟩ => by
      obtain ⟨x, ex, r⟩ := S4.slot i _ q2
      rw [q1] at ex
      cases ex
      obtain ⟨a, xs, dsx, ea, rfl, n1, h5, h6⟩ := own_lst r
      cases ea
      -- the slot stood ahead of the list
      obtain ⟨q3, q4⟩ := wipe_some q1
      have q5 : (Rf.fzs ρ1 vs)[i]? = some (some (.o (.lst dsx))) := by
        have : ∀ vs' : List Nat, (wipeE (Rf.fzs ρ1 vs) vs')[i]? = some (some (Sl.o (.lst dsx))) → (Rf.fzs ρ1 vs)[i]? = some (some (Sl.o (.lst dsx))) := by
          intro vs'
          induction vs' with
          | nil => exact id
          | cons v vs' ih =>
            intro q
            rw [wipeE] at q
            by_cases e : v = i
            · subst e
              rw [List.getElem?_set] at q
              simp at q
            · rw [List.getElem?_set_ne e] at q
              exact ih q
        exact this vs q2
      exact no i ⟨q3, _, q5⟩
    have S5 := addZ S4 nF ⟨_, upd_same⟩ noW4
    have start : LcOk X.K FA Z (fun a => Z a ∨ a = L) (L2.wipe σ vs) L Q [] (upd H1 L (.lst [])) F2 (lcL tg' (evOT Φ cc) (evE Φ ce) vs ds (wipeE (Rf.fzs ρ1 vs) vs)) := by
      cases hr : lcL tg' (evOT Φ cc) (evE Φ ce) vs ds (wipeE (Rf.fzs ρ1 vs) vs) with
      | bad =>
        rw [hr] at k
        exact k
      | ex x ρ' =>
        rw [hr] at k
        exact k
      | ok outs ρ' =>
        rw [hr] at k
        intro H' F' acc e' S' hL r
        have fin := SR.rest S2 S' zs e'.sub
        refine k H' F' (e2.trans (e3.trans e')) fin (.ref L) ⟨⟨L, acc, rfl, (S'.zf L (.inr rfl)).1, hL, r⟩, fun a ea _ => ?_⟩
        cases ea
        refine ⟨nZ, fun i ⟨q1, d, q2⟩ => ?_⟩
        rcases restE_in q2 with ⟨q3, q4⟩ | ⟨q3, q4⟩
        · exact (fzs_no q4).1 q3
        · exact S'.oz i L ⟨by rw [wipe_get q3]; exact q1, d, q4⟩ (.inr rfl)
    refine ⟨fun i m H2 => m = ds.length - i ∧ i ≤ ds.length ∧ ∃ ρ2 F2' acc pre, Ext Z F2 (upd H1 L (.lst [])) F2' H2 ∧ SR X.K FA (fun a => Z a ∨ a = L) (L2.wipe σ vs) H2 ρ2 F2' ∧ H2 L = some (.lst acc) ∧ acc.length ≤ i ∧ Rps X.K FA F2' acc pre ∧
        LcOk X.K FA Z (fun a => Z a ∨ a = L) (L2.wipe σ vs) L Q pre H2 F2' (lcL tg' (evOT Φ cc) (evE Φ ce) vs (ds.drop i) ρ2),
      ⟨ds.length, rfl, Nat.zero_le _, _, F2, [], [], .refl, S5, upd_same, Nat.le_refl _, .nil, start⟩, ?_⟩
    rintro i m H2 ⟨rfl, hi, ρ2, F3, acc, pre, x3, T3, hL, hacc, racc, p2⟩
    obtain ⟨j1, j2⟩ := hJ i H2 F3 (e2.sub.trans x3.sub) T3.sub
    by_cases hlt : i < ds.length
    · have hd : ds[i]? = some ds[i] := List.getElem?_eq_getElem hlt
      obtain ⟨go, yl⟩ := j2 _ hd
      rw [List.drop_eq_getElem_cons hlt, lcL] at p2
      cases ha : asg tg' (.v ds[i]) ρ2 with
      | none =>
        rw [ha] at p2
        exact p2.elim
      | some ρ3 =>
        rw [ha] at p2
        dsimp only at p2
        refine .inr ⟨go, fun H4 => ∃ ρ4 F4 acc pre, Ext Z F2 (upd H1 L (.lst [])) F4 H4 ∧ SR X.K FA (fun a => Z a ∨ a = L) (L2.wipe σ vs) H4 ρ4 F4 ∧ H4 L = some (.lst acc) ∧ acc.length ≤ i + 1 ∧ Rps X.K FA F4 acc pre ∧
          LcOk X.K FA Z (fun a => Z a ∨ a = L) (L2.wipe σ vs) L Q pre H4 F4 (lcL tg' (evOT Φ cc) (evE Φ ce) vs (ds.drop (i + 1)) ρ4), fun H4 ⟨ρ4, F4, a4, b4, h⟩ => ⟨ds.length - (i + 1), by omega, rfl, hlt, ρ4, F4, a4, b4, h⟩, fun x H3 y => ?_⟩
        have turn : ∀ F4, Ext (fun a => Z a ∨ a = L) F3 H2 F4 H3 → SR X.K FA (fun a => Z a ∨ a = L) (L2.wipe σ vs) H3 ρ2 F4 → Rp X.K FA F4 x ds[i] → g x (L2.wipe σ vs) H3 fun σ2 H2' => L2.wipe σ2 vs = L2.wipe σ vs ∧ tt σ2 H2' fun b H3' =>
            if b = true then te σ2 H3' fun y H4 => ∃ acc, H4 L = some (.lst acc) ∧ acc.length < sizeLine ∧ (∃ ρ4 F4 acc' pre, Ext Z F2 (upd H1 L (.lst [])) F4 (upd H4 L (.lst (acc ++ [y]))) ∧ SR X.K FA (fun a => Z a ∨ a = L) (L2.wipe σ vs) (upd H4 L (.lst (acc ++ [y]))) ρ4 F4 ∧ (upd H4 L (.lst (acc ++ [y]))) L = some (.lst acc') ∧ acc'.length ≤ i + 1 ∧ Rps X.K FA F4 acc' pre ∧
              LcOk X.K FA Z (fun a => Z a ∨ a = L) (L2.wipe σ vs) L Q pre (upd H4 L (.lst (acc ++ [y]))) F4 (lcL tg' (evOT Φ cc) (evE Φ ce) vs (ds.drop (i + 1)) ρ4))
            else ∃ ρ4 F4 acc pre, Ext Z F2 (upd H1 L (.lst [])) F4 H3' ∧ SR X.K FA (fun a => Z a ∨ a = L) (L2.wipe σ vs) H3' ρ4 F4 ∧ H3' L = some (.lst acc) ∧ acc.length ≤ i + 1 ∧ Rps X.K FA F4 acc pre ∧
              LcOk X.K FA Z (fun a => Z a ∨ a = L) (L2.wipe σ vs) L Q pre H3' F4 (lcL tg' (evOT Φ cc) (evE Φ ce) vs (ds.drop (i + 1)) ρ4) := fun F4 e4 T4 r4 => by
          have out : ∀ {F H F' H' : Hp}, Ext (fun a => Z a ∨ a = L) F H F' H' → Ext Z F H F' H' := fun {F H F' H'} e => ⟨e.sub, fun a z => e.keep a (.inl z)⟩
          refine h2 _ (L2.wipe σ vs) H3 ρ2 F4 x (.v ds[i]) ρ3 _ T4 (.v r4) ha fun σ5 H5 F5 e5 T5 f5 => ?_
          have ew : L2.wipe σ5 vs = L2.wipe σ vs := by
            refine wipe_same ?_ fun j hj => f5 j (by simp [hj])
            have l1 := T5.len
            have l2 := T4.len
            rw [wipe_length] at l2
            have l3 : ρ3.length = ρ2.length := by
              exact asg_len _ _ _ _ ha
            omega
          refine ⟨ew, ?_⟩
          have p3 := LcOk.shift p2 (out (e4.trans e5))
          refine h3 _ σ5 H5 ρ3 F5 _ T5 ((LcOk.bind zs p3).imp fun b H6 ρ6 F6 e6 T6 k6 => ?_)
          have wp : ∀ {H F : Hp} {ρ : Env}, SR X.K FA (fun a => Z a ∨ a = L) σ5 H ρ F → SR X.K FA (fun a => Z a ∨ a = L) (L2.wipe σ vs) H (wipeE ρ vs) F := fun {H F ρ} T => by
            have := T.wipe vs
            rw [ew] at this
            exact this
          have keepL : ∀ {F H F' H' : Hp} {u : HO}, Ext (fun a => Z a ∨ a = L) F H F' H' → H L = some u → H' L = some u := fun {F H F' H' u} e h => (e.keep L (.inr rfl)).trans h
          cases b with
          | false =>
            rw [if_neg Bool.false_ne_true] at k6 ⊢
            have e7 := e4.trans (e5.trans e6)
            exact ⟨_, F6, acc, pre, x3.trans (out e7), wp T6, keepL e7 hL, Nat.le_succ_of_le hacc, racc.mono e7.sub, k6⟩
          | true =>
            rw [if_pos rfl] at k6 ⊢
            refine h4.toV _ σ5 H6 ρ6 F6 _ T6 ((LcOk.bind zs k6).imp fun s H7 ρ7 F7 e7 T7 k7 y7 r7 => ?_)
            have e8 := e4.trans (e5.trans (e6.trans e7))
            have hL7 := keepL e8 hL
            have racc7 := racc.mono e8.sub
            have T8 := wp T7
            have nF7 : F7 L = none := (T7.zf L (.inr rfl)).1
            -- the list at L grows
            have T9 : SR X.K FA (fun a => Z a ∨ a = L) (L2.wipe σ vs) (upd H7 L (.lst (acc ++ [y7]))) (wipeE ρ7 vs) F7 := by
              refine ⟨fun a o q => ?_, fun a z => ?_, T8.len, fun j t q => ?_, T8.oz, T8.dis⟩
              · rw [upd_ne (fun e => by rw [e, nF7] at q; cases q)]
                exact T8.sub a o q
              · rcases z with z | rfl
                · rw [upd_ne (fun e => nZ (by rw [← e]; exact z))]
                  exact T8.zf a (.inl z)
                · exact ⟨nF7, _, upd_same⟩
              · obtain ⟨xx, exx, rr⟩ := T8.slot j t q
                refine ⟨xx, exx, rr.mono .refl fun a ea ⟨dd, ed⟩ => ?_⟩
                subst ea ed
                have hne : a ≠ L := fun e => T8.oz j a ⟨exx, dd, q⟩ (.inr e)
                obtain ⟨a', _, _, ea, _, n, _⟩ := own_lst rr
                cases ea
                exact ⟨n, upd_ne hne⟩
            have eg : Ext Z F7 H7 F7 (upd H7 L (.lst (acc ++ [y7]))) := ⟨.refl, fun a z => upd_ne fun e => nZ (by rw [← e]; exact z)⟩
            refine ⟨acc, hL7, by rw [← SZ_eq]; omega, _, F7, acc ++ [y7], pre ++ [s.d], x3.trans ((out e8).trans eg), T9, upd_same, by rw [List.length_append]; simpa using hacc, racc7.append (.cons r7 .nil), ?_⟩
            exact (LcOk.cons k7).shift eg
        rcases yl x H3 y with ⟨rfl, r⟩ | ⟨pp, o, np, rfl, r⟩
        · exact turn F3 .refl T3 r
        · obtain ⟨T4, e4⟩ := T3.grow (o := o) np
          exact turn _ e4 T4 r
    · have e : i = ds.length := by omega
      subst e
      rw [List.drop_length, lcL] at p2
      exact .inl ⟨j1 (Nat.le_refl _), p2 H2 F3 acc .refl T3 hL (by rw [List.append_nil]; exact racc)⟩
  · rw [if_neg hz] at k
    exact k.elim

def SOT (C : CC) (ifs : List Expr) (c : Option T) : Prop := ∀ X W Φ FA CA, Ok C X W Φ FA CA → ∃ t, PTs X ifs t ∧ RdT X.K FA CA W t (evOT Φ c)
theorem ot_none : SOT C [] none := fun X W Φ FA CA O => ⟨_, pts_nil, fun Z σ H ρ F Q S p => by
  rw [evOT] at p
  exact p.here S⟩
theorem ot_some {t : Expr} {c : T} (h : ST C t c) : SOT C [t] (some c) := fun X W Φ FA CA O => by
  obtain ⟨tt, h1, h2⟩ := h X W Φ FA CA O
  refine ⟨_, pts_one h1, fun Z σ H ρ F Q S p => ?_⟩
  rw [evOT] at p
  exact h2 Z σ H ρ F Q S p
/-- what a comprehension is made of -/
structure LcParts (C : CC) (elt tg iter : Expr) (ifs : List Expr) (scope : Scope) (own : List (Str × Nat)) (tg' : Tg) (cit : Ir) (cc : Option T) (ce : E) : Prop where
  it : SIt C tg iter cit
  blk : blkC C.N C.sc scope own = true
  g : SG (blkCC C scope (own.map (·.2))) tg tg'
  t : SOT (blkCC C scope (own.map (·.2))) ifs cc
  e : SE (blkCC C scope (own.map (·.2))) elt ce
  pl : plainE iter = true
/-- the readings stand for every block: one that is told by its code is chosen -/
theorem LcParts.rd {ifs : List Expr} {scope : Scope} {own : List (Str × Nat)} {tg' : Tg} {cit : Ir} {cc : Option T} {ce : E} (P : LcParts C elt tg iter ifs scope own tg' cit cc ce) {X : Cx} {W : WX} {Φ : PhiT} {FA CA : Nat → Option Addr} (O : Ok C X W Φ FA CA) :
    ∃ wi g tt te, PI X tg iter wi ∧ BlkOk X.N X.env.scope scope own ∧
      (∀ (s : Shared) (H : Hp) (C : Addr) (cl : List (Str × Addr)) (fp : List Addr), PG (X.blk s H scope (compEnvC scope cl C X.env) fp) tg g) ∧
      (∀ (s : Shared) (H : Hp) (C : Addr) (cl : List (Str × Addr)) (fp : List Addr), PTs (X.blk s H scope (compEnvC scope cl C X.env) fp) ifs tt) ∧
      (∀ (s : Shared) (H : Hp) (C : Addr) (cl : List (Str × Addr)) (fp : List Addr), PE (X.blk s H scope (compEnvC scope cl C X.env) fp) elt te) ∧
      RdE X.K FA CA W (tLc wi g tt te (own.map (·.2))) (evE Φ (.lc (own.map (·.2)) tg' cit cc ce)) := by
  obtain ⟨wi, w1, w2⟩ := P.it X W Φ FA CA O
  -- one reading for all blocks: that of each
  refine ⟨wi, fun v σ H Q => ∀ (s : Shared) (H0 : Hp) (A : Addr) (cl : List (Str × Addr)) (fp : List Addr), ∃ g, PG (X.blk s H0 scope (compEnvC scope cl A X.env) fp) tg g ∧ g v σ H Q,
    fun σ H Q => ∀ (s : Shared) (H0 : Hp) (A : Addr) (cl : List (Str × Addr)) (fp : List Addr), ∃ t, PTs (X.blk s H0 scope (compEnvC scope cl A X.env) fp) ifs t ∧ t σ H Q,
    fun σ H Q => ∀ (s : Shared) (H0 : Hp) (A : Addr) (cl : List (Str × Addr)) (fp : List Addr), ∃ t, PE (X.blk s H0 scope (compEnvC scope cl A X.env) fp) elt t ∧ t σ H Q, w1, ?_, ?_, ?_, ?_, ?_⟩
  · rw [O.N, O.sc]
    exact blkOk_by P.blk
  · exact fun s H A cl fp => ⟨fun pins s' σ H' v u Q I r q => by
      obtain ⟨g, hg, q⟩ := q s H A cl fp
      exact hg.run pins s' σ H' v u Q I r q⟩
  · exact fun s H A cl fp => ⟨fun pins s' σ H' Q I q => by
      obtain ⟨t, ht, q⟩ := q s H A cl fp
      exact ht.run pins s' σ H' Q I q⟩
  · exact fun s H A cl fp => ⟨fun pins s' σ H' Q I q => by
      obtain ⟨t, ht, q⟩ := q s H A cl fp
      exact ht.run pins s' σ H' Q I q⟩
  · refine lc_rd O w2 (fun Z σ H ρ F x s ρ' Q S r e q s0 H0 A cl fp => ?_) (fun Z σ H ρ F Q S p s0 H0 A cl fp => ?_) fun Z σ H ρ F Q S p s0 H0 A cl fp => ?_
    · obtain ⟨g, g1, g2⟩ := P.g _ _ _ _ _ (O.blk scope (own.map (·.2)) s0 H0 A cl fp)
      exact ⟨g, g1, g2 Z σ H ρ F x s ρ' Q S r e q⟩
    · obtain ⟨g, g1, g2⟩ := P.t _ _ _ _ _ (O.blk scope (own.map (·.2)) s0 H0 A cl fp)
      exact ⟨g, g1, g2 Z σ H ρ F Q S p⟩
    · obtain ⟨g, g1, g2⟩ := P.e _ _ _ _ _ (O.blk scope (own.map (·.2)) s0 H0 A cl fp)
      exact ⟨g, g1, g2 Z σ H ρ F Q S p⟩
theorem s_lc {ifs : List Expr} {scope : Scope} {own : List (Str × Nat)} {tg' : Tg} {cit : Ir} {cc : Option T} {ce : E} (P : LcParts C elt tg iter ifs scope own tg' cit cc ce) : SE C (.ListComp elt [⟨tg, iter, ifs, 0⟩] scope pos) (.lc (own.map (·.2)) tg' cit cc ce) := fun X W Φ FA CA O => by
  obtain ⟨wi, g, tt, te, w1, ok, hg, ht, he, rd⟩ := P.rd O
  exact ⟨_, pe_lc O.calm (by rw [O.N]; exact O.nd) w1 ok hg ht he (plain_fold P.pl X.env), rd⟩
/-! ### stores -/
theorem asg_rd {K : PySem.W.Frag} {FA CA : Nat → Option Addr} {W : WX} {fx : Nat → Bool} {te : TE} {g : TG} {tg' : Tg} {ce : E} {Φ : PhiT} (t2 : RdE K FA CA W te (evE Φ ce)) (g2 : RdG K FA fx g tg') : RdS K FA CA W fx (tAsg te g) (evS Φ (.asg tg' ce)) := fun Z σ H ρ F D S p => by
  rw [evS] at p
  refine t2 Z σ H ρ F _ S (p.stm.imp fun s H1 ρ1 F1 e1 S1 k x r => ?_)
  cases ha : asg tg' s ρ1 with
  | none =>
    rw [ha] at k
    exact k.elim
  | some ρ2 =>
    rw [ha] at k
    exact g2 Z σ H1 ρ1 F1 x s ρ2 _ S1 r ha fun σ2 H2 F2 e2 S2 f2 => k σ2 H2 F2 e2 S2 f2
/-- y = [..] on one line -/
def swB (C : CC) (scope : Scope) (y : Str) (py pos : Pos) : Bool := decide (C.sc.kind = .function) && kindIs C.sc y .local && (py.line == pos.line) && !(scope.names.any fun (n, k) => n == y && (k == .local || k == .cell))
theorem st_asgLc {ifs : List Expr} {scope : Scope} {own : List (Str × Nat)} {tg' : Tg} {cit : Ir} {cc : Option T} {ce : E} {y : Str} {py spos : Pos} {i : Nat} (P : LcParts C elt tg iter ifs scope own tg' cit cc ce) (hy : locB C y i = true) (hs : swB C scope y py pos = true) :
    SS C (.Assign [.Name y py] (.ListComp elt [⟨tg, iter, ifs, 0⟩] scope pos) spos) (.asg (.nm i) (.lc (own.map (·.2)) tg' cit cc ce)) := fun X W Φ FA CA O => by
  obtain ⟨wi, g, tt, te, w1, ok, hg, ht, he, rd⟩ := P.rd O
  obtain ⟨h1, h2, h3, h4⟩ := loc_of hy
  unfold swB at hs
  simp only [Bool.and_eq_true, decide_eq_true_eq, Bool.not_eq_true'] at hs
  obtain ⟨⟨⟨hk, hl⟩, hp⟩, ha⟩ := hs
  have hl := kind_of hl
  refine ⟨_, ps_setLc O.calm (by rw [O.N]; exact O.nd) (by rw [O.N]; exact h1) (by rw [O.sc]; exact hl) (sw_true (by rw [O.sc]; exact hk) (by rw [O.sc]; exact hl) hp ha) w1 ok hg ht he (plain_fold P.pl X.env), asg_rd rd ?_⟩
  exact fun Z σ H ρ F x s ρ' Q S r e q => by
    cases e
    exact q _ H F .refl (S.store r) (.set h4)
/-- x[k] = e, x a list of this frame's -/
theorem st_stx {x : Str} {i : Nat} {k : Expr} {ck ce : E} {p ipos : Pos} (hx : visB C x i = true) (hk : SE C k ck) (he : SE C e ce) (hn : noComp e = true) (hs : plainIx k = true) :
    SS C (.Assign [.Subscript (.Name x p) k ipos] e pos) (.stx i ck ce) := fun X W Φ FA CA O => by
  obtain ⟨tk, k1, k2⟩ := hk X W Φ FA CA O
  obtain ⟨te, e1, e2⟩ := he X W Φ FA CA O
  refine ⟨_, ps_asg e1 (pg_sub (pe_v O hx) k1 set_list (by intro v; cases k <;> first | rfl | cases hs)) (by unfold swapsWithSole; exact noComp_sw hn _ _ _) rfl rfl, fun Z σ H ρ F D S p => ?_⟩
  rw [evS] at p
  refine e2.toV Z σ H ρ F _ S (p.stm.imp fun s H1 ρ1 F1 x1 S1 kk y r => ?_)
  -- the list's name is read now
  cases g0 : gt ρ1 i with
  | none =>
    rw [g0] at kk
    exact kk.elim
  | some s0 =>
  rw [g0] at kk
  rw [if_pos (by rfl)] at kk
  obtain ⟨v, hv, _⟩ := S1.slot i _ (gt_some.mp g0)
  refine ⟨v, hv, ?_⟩
  refine k2.toV Z σ H1 ρ1 F1 _ S1 (kk.stm.imp fun s2 H2 ρ2 F2 x2 S2 k3 y2 r2 => ?_)
  unfold stxS at k3
  cases g : gt ρ2 i with
  | none =>
    rw [g] at k3
    exact k3.elim
  | some sl =>
    rw [g] at k3
    cases sl with
    | v d => exact k3.elim
    | o d =>
      obtain ⟨xx, exx, rr⟩ := S2.slot i _ (gt_some.mp g)
      rw [hv] at exx
      cases exx
      obtain ⟨a, xs, ds, rfl, rfl, n, h1, h2⟩ := own_lst rr
      cases hd : s2.d with
      | int q =>
        rw [hd] at k3 r2
        cases r2
        dsimp only at k3
        cases hj : Rf.ixN ds.length q with
        | none =>
          rw [hj] at k3
          exact k3.elim
        | some j =>
          rw [hj] at k3
          obtain ⟨S3, E3⟩ := S2.put (gt_some.mp g) hv h1 (h2.set j (r.mono x2.sub))
          refine ⟨a, xs, q, j, rfl, rfl, h1, by rw [h2.length]; exact hj, ?_⟩
          exact k3 σ _ F2 E3 S3 .refl
      | _ => rw [hd] at k3; exact k3.elim
end
def isStar : Expr → Bool
  | .Starred .. => true
  | _ => false
def swNm (sc : Scope) (line : Nat) : Expr → Option Str
  | .Name id pos => if sc.names.lookup id == some .local && pos.line == line then some id else none
  | _ => none
def swNames (sc : Scope) (ts : List Expr) : List Str := ts.filterMap (swNm sc ((ts.head?.map (·.pos.line)).getD 0))
/-- what a, b = x, y does: none: in order; some: the names -/
def swCls (sc : Scope) (ts vs : List Expr) : Option (Option (List Str)) :=
  if !(ts.length == 2 || ts.length == 3) || vs.length != ts.length then some none
  else if vs.any isStar then some none
  else if (swNames sc ts).length != ts.length || (swNames sc ts).eraseDups.length != (swNames sc ts).length then some none
  else if vs.all (foldedForSure 8) then some none
  else if vs.all (constantsAlone 8) then none
  else some (some (swNames sc ts))
theorem swapped_eq {sc : Scope} {ts vs : List Expr} {k k2 : Nat} {p p2 : Pos} {env : PySem.Env} {r : Option (List Str)} (he : env.scope = sc) (hk : sc.kind = .function) (h : swCls sc ts vs = some r) : swappedStores [.Tuple ts k p] (.Tuple vs k2 p2) env = pure r := by
  have hb : env.blockKind = .function := by unfold Env.blockKind; rw [he, hk]; rfl
  unfold swCls at h
  unfold swappedStores
  dsimp only
  rw [hb]
  generalize hN : List.filterMap _ ts = N
  have eN : N = swNames sc ts := by
    rw [← hN]
    unfold swNames
    congr 1
    funext e
    subst he
    cases e <;> rfl
  rw [eN]
  generalize hV : List.any vs _ = V
  have eV : V = vs.any isStar := by
    rw [← hV]
    try rfl
  rw [eV]
  simp only [bne_self_eq_false, Bool.or_false]
  by_cases h1 : (!(ts.length == 2 || ts.length == 3) || vs.length != ts.length) = true
  · rw [if_pos h1] at h ⊢
    cases h
    rfl
  · rw [if_neg h1] at h ⊢
    by_cases h2 : vs.any isStar = true
    · rw [if_pos h2] at h ⊢
      cases h
      rfl
    · rw [if_neg h2] at h ⊢
      by_cases h3 : ((swNames sc ts).length != ts.length || (swNames sc ts).eraseDups.length != (swNames sc ts).length) = true
      · rw [if_pos h3] at h ⊢
        cases h
        rfl
      · rw [if_neg h3] at h ⊢
        by_cases h4 : vs.all (foldedForSure 8) = true
        · rw [if_pos h4] at h ⊢
          cases h
          rfl
        · rw [if_neg h4] at h ⊢
          by_cases h5 : vs.all (constantsAlone 8) = true
          · rw [if_pos h5] at h
            cases h
          · rw [if_neg h5] at h ⊢
            cases h
            rfl

section
variable {C : CC} {a b c : Expr} {pos : Pos}
/-- a tuple on the right, stored in order -/
theorem st_asgT {ce : E} {tg' : Tg} {ts vs : List Expr} {k k2 : Nat} {p p2 : Pos} (h : SE C (.Tuple vs k2 p2) ce) (hg : SG C (.Tuple ts k p) tg') (hk : C.sc.kind = .function) (hw : swCls C.sc ts vs = some none) : SS C (.Assign [.Tuple ts k p] (.Tuple vs k2 p2) pos) (.asg tg' ce) :=
  st_asg h hg rfl (fun X W Φ FA CA O => swapped_eq O.sc hk hw) rfl
theorem no_swap {tg e : Expr} (h : (match tg, e with | .Tuple .., .Tuple .. => false | .List .., .Tuple .. => false | _, _ => true) = true) (env : PySem.Env) : swappedStores [tg] e env = pure none := by
  cases tg <;> first | rfl | skip
  all_goals (cases e <;> first | rfl | cases h)
/-- what an unfinished value holds is not touched -/
def guard (Z : Addr → Prop) (x : V) (s : Sl) : Addr → Prop := fun a => Z a ∨ (x = .ref a ∧ ∃ d, s = .o d)
theorem SR.guard {K : PySem.W.Frag} {FA : Nat → Option Addr} {Z : Addr → Prop} {σ : St} {H F : Hp} {ρ : Env} {x : V} {s : Sl} (S : SR K FA Z σ H ρ F) (r : RX K FA Z σ ρ F H x s) : SR K FA (Rf.guard Z x s) σ H ρ F :=
  ⟨S.sub, fun a z => by
    rcases z with z | ⟨ex, d, es⟩
    · exact S.zf a z
    · subst es
      obtain ⟨a', xs, ds, ea, _, n, h, _⟩ := own_lst r.1
      rw [ex] at ea
      cases ea
      exact ⟨n, _, h⟩, S.len, S.slot, fun i a o z => by
    rcases z with z | ⟨ex, es⟩
    · exact S.oz i a o z
    · exact (r.2 a ex es).2 i o, S.dis⟩
theorem SR.unguard {K : PySem.W.Frag} {FA : Nat → Option Addr} {Z : Addr → Prop} {σ σ2 : St} {H F H2 F2 : Hp} {ρ ρ2 : Env} {x : V} {s : Sl} (r : RX K FA Z σ ρ F H x s) (S2 : SR K FA (Rf.guard Z x s) σ2 H2 ρ2 F2) (e : Ext (Rf.guard Z x s) F H F2 H2) :
    SR K FA Z σ2 H2 ρ2 F2 ∧ RX K FA Z σ2 ρ2 F2 H2 x s := by
  refine ⟨⟨S2.sub, fun a z => S2.zf a (.inl z), S2.len, S2.slot, fun i a o z => S2.oz i a o (.inl z), S2.dis⟩, r.1.mono e.sub fun a ex es => ⟨(S2.zf a (.inr ⟨ex, es⟩)).1, e.keep a (.inr ⟨ex, es⟩)⟩, fun a ex es => ⟨(r.2 a ex es).1, fun i o => S2.oz i a o (.inr ⟨ex, es⟩)⟩⟩
theorem SR.weak {K : PySem.W.Frag} {FA : Nat → Option Addr} {Z Z' : Addr → Prop} {σ : St} {H F : Hp} {ρ : Env} (S : SR K FA Z' σ H ρ F) (h : ∀ a, Z a → Z' a) : SR K FA Z σ H ρ F :=
  ⟨S.sub, fun a z => S.zf a (h a z), S.len, S.slot, fun i a o z => S.oz i a o (h a z), S.dis⟩
theorem Ext.weak {Z Z' : Addr → Prop} {F H F' H' : Hp} (e : Ext Z' F H F' H') (h : ∀ a, Z a → Z' a) : Ext Z F H F' H' := ⟨e.sub, fun a z => e.keep a (h a z)⟩
theorem Po.weak {K : PySem.W.Frag} {FA CA : Nat → Option Addr} {W : WX} {Z Z' : Addr → Prop} {σ : St} {H F : Hp} {α : Type} {r : R α} {k : α → Hp → Env → Hp → Prop} (p : Po K FA CA W Z σ H F r k) (h : ∀ a, Z a → Z' a) : Po K FA CA W Z' σ H F r fun a H' ρ' F' => Ext Z' F H F' H' ∧ k a H' ρ' F' := by
  cases r with
  | ok a ρ' => exact fun H' F' e S => ⟨e, p H' F' (e.weak h) (S.weak h)⟩
  | ex x ρ' => exact fun H' F' e S => p H' F' (e.weak h) (S.weak h)
  | bad => exact p
/-- values that are kept as they are made -/
def RdSl (K : PySem.W.Frag) (FA CA : Nat → Option Addr) (W : WX) (t : TA) (c : Env → R (List Sl)) : Prop := ∀ Z σ H ρ F (Q : List V → Hp → Prop), SR K FA Z σ H ρ F → Po K FA CA W Z σ H F (c ρ) (fun ss H' ρ' F' => ∀ xs, xs.length = ss.length → SR K FA Z (xs.map some ++ σ) H' (ss.map some ++ ρ') F' → Q xs H') → t σ H Q
def SSl (C : CC) (es : List Expr) (c : Es) : Prop := ∀ X W Φ FA CA, Ok C X W Φ FA CA → ∃ t, PA X es t ∧ RdSl X.K FA CA W t (evSl Φ c)
theorem sl_nil : SSl C [] .nil := fun X W Φ FA CA O => ⟨_, pa_nil, fun Z σ H ρ F Q S p => by
  rw [evSl] at p
  exact p.here S [] rfl S⟩
theorem sl_cons {es : List Expr} {c : E} {cs : Es} (ha : SE C a c) (hs : SSl C es cs) (hp : plainE a = true) : SSl C (a :: es) (.cons c cs) := fun X W Φ FA CA O => by
  obtain ⟨ta, ha1, ha2⟩ := ha X W Φ FA CA O
  obtain ⟨tb, hb1, hb2⟩ := hs X W Φ FA CA O
  refine ⟨_, pa_cons ha1 hb1 (plain_star hp es X.env), fun Z σ H ρ F Q S p => ?_⟩
  rw [evSl] at p
  refine ha2 Z σ H ρ F _ S (p.bind.imp fun s H1 ρ1 F1 e1 S1 k1 x1 r1 => ?_)
  refine hb2 (Rf.guard Z x1 s) σ H1 ρ1 F1 _ (S1.guard r1) ((k1.bind.weak (Z' := Rf.guard Z x1 s) fun a z => .inl z).imp fun ss H2 ρ2 F2 e2 S2 k2 xs hl S3 => ?_)
  obtain ⟨S4, r4⟩ := SR.unguard r1 S3 e2
  have S2' := S2.weak (Z := Z) fun a z => .inl z
  exact k2.2.here S2' (x1 :: xs) (congrArg (· + 1) hl) (S4.push r4)
theorem st_par {x y : Str} {i j : Nat} {ca cb : E} {k k2 : Nat} {p p2 px py : Pos} (ha : SE C a ca) (hb : SE C b cb) (hp : plainE a = true) (hp2 : plainE b = true) (hx : locB C x i = true) (hy : locB C y j = true) (kx : kindIs C.sc x .local = true) (ky : kindIs C.sc y .local = true) (hij : i ≠ j)
    (hk : C.sc.kind = .function) (hw : swCls C.sc [.Name x px, .Name y py] [a, b] = some (some [x, y])) : SS C (.Assign [.Tuple [.Name x px, .Name y py] k p] (.Tuple [a, b] k2 p2) pos) (.par [i, j] (.cons ca (.cons cb .nil))) := fun X W Φ FA CA O => by
  obtain ⟨ta, h1, h2⟩ := (sl_cons ha (sl_cons hb sl_nil hp2) hp) X W Φ FA CA O
  obtain ⟨x1, x2, x3, x4⟩ := loc_of hx
  obtain ⟨y1, y2, y3, y4⟩ := loc_of hy
  refine ⟨_, ps_par O.calm (by rw [O.N]; exact O.nd) (by rw [O.N]; exact x1) (by rw [O.N]; exact y1) hij (by rw [O.sc]; exact kind_of kx) (by rw [O.sc]; exact kind_of ky) h1 (swapped_eq O.sc hk hw), fun Z σ H ρ F D S p => ?_⟩
  rw [evS] at p
  refine h2 Z σ H ρ F _ S (p.stm.imp fun ds H1 ρ1 F1 e1 S1 kk xs hl S2 => ?_)
  match ds, xs, hl, kk, S2 with
  | [], _, _, kk, _ => exact kk.elim
  | [_], _, _, kk, _ => exact kk.elim
  | _ :: _ :: _ :: _, _, _, kk, _ => exact kk.elim
  | [d, d2], [v, v2], _, kk, S2 =>
    have kk : PoS X.K FA CA W C.fx Z σ H1 F1 (.nx ((ρ1.set i (some d)).set j (some d2))) D := kk
    have S2 : SR X.K FA Z (some v :: some v2 :: σ) H1 (some d :: some d2 :: ρ1) F1 := S2
    obtain ⟨_, e1', r1⟩ := S2.popX
    cases e1'
    have S3 := S2.pop.store (i := i + 1) r1
    simp only [List.set_cons_succ] at S3
    obtain ⟨_, e2', r2⟩ := S3.popX
    cases e2'
    exact ⟨v, v2, rfl, kk _ H1 F1 .refl (S3.pop.store r2) ((Fixd.set x4).trans (Fixd.set y4))⟩
theorem st_par3 {x y z : Str} {i j l : Nat} {ca cb cc : E} {k k2 : Nat} {p p2 px py pz : Pos} (ha : SE C a ca) (hb : SE C b cb) (hc : SE C c cc) (hp : plainE a = true) (hp2 : plainE b = true) (hp3 : plainE c = true) (hx : locB C x i = true) (hy : locB C y j = true) (hz : locB C z l = true)
    (kx : kindIs C.sc x .local = true) (ky : kindIs C.sc y .local = true) (kz : kindIs C.sc z .local = true) (hij : i ≠ j) (hil : i ≠ l) (hjl : j ≠ l)
    (hk : C.sc.kind = .function) (hw : swCls C.sc [.Name x px, .Name y py, .Name z pz] [a, b, c] = some (some [x, y, z])) : SS C (.Assign [.Tuple [.Name x px, .Name y py, .Name z pz] k p] (.Tuple [a, b, c] k2 p2) pos) (.par [i, j, l] (.cons ca (.cons cb (.cons cc .nil)))) := fun X W Φ FA CA O => by
  obtain ⟨ta, h1, h2⟩ := (sl_cons ha (sl_cons hb (sl_cons hc sl_nil hp3) hp2) hp) X W Φ FA CA O
  obtain ⟨x1, x2, x3, x4⟩ := loc_of hx
  obtain ⟨y1, y2, y3, y4⟩ := loc_of hy
  obtain ⟨z1, z2, z3, z4⟩ := loc_of hz
  refine ⟨_, ps_par3 O.calm (by rw [O.N]; exact O.nd) (by rw [O.N]; exact x1) (by rw [O.N]; exact y1) (by rw [O.N]; exact z1) hij hil hjl (by rw [O.sc]; exact kind_of kx) (by rw [O.sc]; exact kind_of ky) (by rw [O.sc]; exact kind_of kz) h1 (swapped_eq O.sc hk hw), fun Z σ H ρ F D S p => ?_⟩
  rw [evS] at p
  refine h2 Z σ H ρ F _ S (p.stm.imp fun ds H1 ρ1 F1 e1 S1 kk xs hl S2 => ?_)
  match ds, xs, hl, kk, S2 with
  | [], _, _, kk, _ => exact kk.elim
  | [_], _, _, kk, _ => exact kk.elim
  | [_, _], _, _, kk, _ => exact kk.elim
  | _ :: _ :: _ :: _ :: _, _, _, kk, _ => exact kk.elim
  | [d, d2, d3], [v, v2, v3], _, kk, S2 =>
    have kk : PoS X.K FA CA W C.fx Z σ H1 F1 (.nx (((ρ1.set i (some d)).set j (some d2)).set l (some d3))) D := kk
    have S2 : SR X.K FA Z (some v :: some v2 :: some v3 :: σ) H1 (some d :: some d2 :: some d3 :: ρ1) F1 := S2
    obtain ⟨_, e1', r1⟩ := S2.popX
    cases e1'
    have S3 := S2.pop.store (i := i + 1 + 1) r1
    simp only [List.set_cons_succ] at S3
    obtain ⟨_, e2', r2⟩ := S3.popX
    cases e2'
    have S4 := S3.pop.store (i := j + 1) r2
    simp only [List.set_cons_succ] at S4
    obtain ⟨_, e3', r3⟩ := S4.popX
    cases e3'
    exact ⟨v, v2, v3, rfl, kk _ H1 F1 .refl (S4.pop.store r3) (((Fixd.set x4).trans (Fixd.set y4)).trans (Fixd.set z4))⟩
/-! ### raise -/
theorem pmk0 {X : Cx} {A : Addr} {bmB : List Value} {B newId initId : String} {x : Str} {p : Pos} (F : PySem.ExcBaseFacts B newId initId bmB) (q : PySem.W.excIn X.K A bmB newId = true) (gC : X.mg x = some (.ref A)) (kC : PySem.W.keepIn X.K (.ref A) = true) (r : Raises X (.ref A)) (hg : Gl X x)
    (hdb : (x == ("__debug__" : Str)) = false) : PMk X (.Call (.Name x p) [] [] pos) (fun _ H Q => Q (.ref A) none H) := by
  intro pins s σ H Q I h
  refine wpAny_Call_Name_kw (ld_glob I hg gC ?_ hdb)
  refine PySem.W.callWith_K0 I.kIn kC ?_
  obtain ⟨bm, N, nm, qn, bs, hdct, sn, sub, ab, col, dd, k0, k1, k2, k3, k5, mN, hC, hN, hni, T⟩ := exc_obj I.kIn q
  exact wpAny_call_exc_subT F T hC hN hni (fun h' e hm => mk_of I hm r h (I.hok.gone hm.new)) (Nat.zero_le _)
theorem st_raise {x : Str} {cn : Nat} {p p2 : Pos} (hk : kindIs C.sc x .globalImplicit = true) (hg : C.gi x = some (.exc cn)) (hd : (x == ("__debug__" : Str)) = false) : SS C (.Raise (some (.Call (.Name x p) [] [] p2)) none pos) (.raise cn) := fun X W Φ FA CA O => by
  obtain ⟨A, hA, hm, B, ni, ii, bm, F, q, kC, s1, s2⟩ := O.gi x _ hg
  refine ⟨_, ps_raise O.calm O.tk (pmk0 F q hm kC (raises_own s1 s2.1) (glx O hk) hd), fun Z σ H ρ F D S p => ?_⟩
  rw [evS] at p
  exact p σ H F .refl S .refl A hA rfl
end
end Rf

set_option maxHeartbeats 1000000
/-! Rf9: more operations. -/
namespace Rf
open PySem PySem.Spec L2
open PySem.W (AlikeAll minD maxD minD_ints maxD_ints min_list_data min_tuple_data max_list_data max_tuple_data depth_ints)
section
variable {C : CC} {e a b : Expr} {pos : Pos}
/-! ### isinstance -/
def tyN : D → String
  | .non => "NoneType"
  | .bl _ => "bool"
  | .int _ => "int"
  | .str _ => "str"
  | .tup _ => "tuple"
  | .lst _ => "list"
  | _ => ""
theorem ty_of {K : PySem.W.Frag} {FA : Nat → Option Addr} {F H : Hp} {x : V} {d : D} {k : Kd} {b : Bool} (S : Sub F H) (r : RQ K FA F H x d) (h : isK k d = some b) : TyX K H x (.type (tyN d)) := by
  cases d with
  | non => rw [r.non]; exact .base .non
  | bl b => rw [r.bl]; exact .base (.bl b)
  | int i => rw [r.int]; exact .base (.int i)
  | str s => rw [r.str.1]; exact .base (.str _)
  | tup ds =>
    obtain ⟨a, xs, rfl, h1, _⟩ := r.tup S
    rcases h1 with (h1 | ⟨o, h1⟩) | ⟨o, its, n, h1, h2, _⟩
    · exact .base (.tup h1)
    · exact .fTuple h1
    · exact .kTuple h1 h2
  | lst ds =>
    obtain ⟨a, xs, rfl, h1, _⟩ := r.lst S
    exact .base (.lst h1)
  | scr ds => cases h
  | fn f => cases h
  | dic l => cases h
/-- the classes that a kind asks for -/
def kdTy : Kd → List String
  | .int => ["int"]
  | .bool => ["bool"]
  | .tup => ["tuple"]
  | .lst => ["list"]
  | .str => ["str"]
  | .seq => ["list", "tuple"]
  | .bs => ["bool", "str"]
def kitL (t : String) : List String → Option Bool
  | [] => some false
  | c :: r => match kitB t c with
    | some true => some true
    | some false => kitL t r
    | none => none
theorem kitL_ok {K : PySem.W.Frag} {t : String} : ∀ {cs : List String} {r : Bool}, kitL t cs = some r → PySem.W.kitAny K (.type t) (cs.map Value.type) = some r
  | [], r, h => h
  | c :: cs, r, h => by
    rw [kitL] at h
    rw [List.map_cons, PySem.W.kitAny]
    cases q : kitB t c with
    | none => rw [q] at h; cases h
    | some b =>
      rw [q] at h
      rw [kit_ty q]
      cases b with
      | true => exact h
      | false => exact kitL_ok h
theorem kd_ok (k : Kd) (t : D) (b : Bool) (h : isK k t = some b) : kitL (tyN t) (kdTy k) = some b := by
  cases t <;> first | (cases h; done) | skip
  all_goals (cases h; cases k <;> (first | kernel_rfl | decide))
theorem paired_ty : ∀ cs : List String, Paired ClsV (cs.map V.ty) (cs.map Value.type)
  | [] => .nil
  | c :: cs => .cons (.ty c) (paired_ty cs)
def tyNames (k : Kd) : List Expr → Bool
  | [] => (kdTy k).isEmpty
  | _ => true
theorem pe_tyn {X : Cx} {W : WX} {Φ : PhiT} {FA CA : Nat → Option Addr} {x : String} {p : Pos} (O : Ok C X W Φ FA CA) (hk : kindIs C.sc (Str.ofString x) .globalImplicit = true) (hg : C.gi (Str.ofString x) = some .blt) (hv : bootBuiltins (Str.ofString x) = some (.type x))
    (hn : Str.ofString x ≠ "__name__") (hd : (Str.ofString x == ("__debug__" : Str)) = false) : PE X (.Name (Str.ofString x) p) (tC (.ty x)) :=
  pe_bltn (glx O hk) (O.gi _ _ hg) hv rfl hn hd
/-- a type's name -/
def tyB (C : CC) (x : String) : Bool := kindIs C.sc (Str.ofString x) .globalImplicit && (match C.gi (Str.ofString x) with | some .blt => true | _ => false) && (match bootBuiltins (Str.ofString x) with | some (.type n) => n == x | _ => false) && !decide (Str.ofString x = "__name__") && !(Str.ofString x == ("__debug__" : Str))
theorem tyB_of {x : String} (h : tyB C x = true) : kindIs C.sc (Str.ofString x) .globalImplicit = true ∧ C.gi (Str.ofString x) = some .blt ∧ bootBuiltins (Str.ofString x) = some (.type x) ∧ Str.ofString x ≠ "__name__" ∧ (Str.ofString x == ("__debug__" : Str)) = false := by
  unfold tyB at h
  simp only [Bool.and_eq_true, Bool.not_eq_true', decide_eq_false_iff_not] at h
  obtain ⟨⟨⟨⟨h1, h2⟩, h3⟩, h4⟩, h5⟩ := h
  refine ⟨h1, ?_, ?_, h4, h5⟩
  · split at h2
    · assumption
    · cases h2
  · split at h3
    · rename_i n q
      rw [q, beq_iff_eq.mp h3]
    · cases h3
def bltB (C : CC) (x : String) (v : Value) : Bool := kindIs C.sc (Str.ofString x) .globalImplicit && (match C.gi (Str.ofString x) with | some .blt => true | _ => false) && decide (bootBuiltins (Str.ofString x) = some v) && !decide (Str.ofString x = "__name__") && !(Str.ofString x == ("__debug__" : Str))
theorem bltB_of {x : String} {v : Value} (h : bltB C x v = true) : kindIs C.sc (Str.ofString x) .globalImplicit = true ∧ C.gi (Str.ofString x) = some .blt ∧ bootBuiltins (Str.ofString x) = some v ∧ Str.ofString x ≠ "__name__" ∧ (Str.ofString x == ("__debug__" : Str)) = false := by
  unfold bltB at h
  simp only [Bool.and_eq_true, Bool.not_eq_true', decide_eq_false_iff_not, decide_eq_true_eq] at h
  obtain ⟨⟨⟨⟨h1, h2⟩, h3⟩, h4⟩, h5⟩ := h
  refine ⟨h1, ?_, h3, h4, h5⟩
  split at h2
  · assumption
  · cases h2
theorem s_isk1 {k : Kd} {t : String} {p p2 : Pos} {c : P} (hi : bltB C "isinstance" (.builtin "isinstance") = true) (ht : tyB C t = true) (hk : kdTy k = [t]) (ha : SP C a c) (hp : plainE a = true) :
    SE C (.Call (.Name (Str.ofString "isinstance") p) [a, .Name (Str.ofString t) p2] [] pos) (.isk k c) := fun X W Φ FA CA O => by
  obtain ⟨ta, ha1, ha2⟩ := ha X W Φ FA CA O
  obtain ⟨i1, i2, i3, i4, i5⟩ := bltB_of hi
  obtain ⟨t1, t2, t3, t4, t5⟩ := tyB_of ht
  refine ⟨_, pe_callB call_isi (glx O i1) (O.gi _ _ i2) i3 (pa_cons ha1 (pa_cons (pe_tyn O t1 t2 t3 t4 t5) pa_nil (plain_star rfl [] X.env)) (plain_star hp _ X.env)) i4 i5 (plain_star hp _ X.env) (by rw [plain_star rfl]; rfl), fun Z σ H ρ F Q S p => ?_⟩
  rw [evE] at p
  refine one ha2 (g := fun x => (isK k x).map fun b => Sl.v (.bl b)) (k := fun s H' ρ' F' => ∀ x, RX X.K FA Z σ ρ' F' H' x s → Q x H') S p fun H2 ρ2 F2 x a s S2 rx es k2 => ?_
  obtain ⟨b, hb, rfl⟩ := Option.map_eq_some_iff.mp es
  have q := kd_ok k a b hb
  rw [hk] at q
  refine ⟨x, .ty t, .type (tyN a), .type t, b, rfl, .ty t, ty_of S2.sub rx hb, kit_ty ?_, k2.here S2 _ (.v (.bl b))⟩
  rw [kitL] at q
  cases w : kitB (tyN a) t with
  | none => rw [w] at q; cases q
  | some b' =>
    rw [w] at q
    cases b' with
    | true => exact q
    | false => exact q
theorem s_isk2 {k : Kd} {t u : String} {p p2 p3 p4 : Pos} {j : Nat} {c : P} (hi : bltB C "isinstance" (.builtin "isinstance") = true) (ht : tyB C t = true) (hu : tyB C u = true) (hk : kdTy k = [t, u]) (ha : SP C a c) (hp : plainE a = true) :
    SE C (.Call (.Name (Str.ofString "isinstance") p) [a, .Tuple [.Name (Str.ofString t) p2, .Name (Str.ofString u) p3] j p4] [] pos) (.isk k c) := fun X W Φ FA CA O => by
  obtain ⟨ta, ha1, ha2⟩ := ha X W Φ FA CA O
  obtain ⟨i1, i2, i3, i4, i5⟩ := bltB_of hi
  obtain ⟨t1, t2, t3, t4, t5⟩ := tyB_of ht
  obtain ⟨u1, u2, u3, u4, u5⟩ := tyB_of hu
  refine ⟨_, pe_callB call_isiT (glx O i1) (O.gi _ _ i2) i3 (pa_cons ha1 (pa_cons (pe_tup (pa_cons (pe_tyn O t1 t2 t3 t4 t5) (pa_cons (pe_tyn O u1 u2 u3 u4 u5) pa_nil (plain_star rfl [] X.env)) (plain_star rfl _ X.env))) pa_nil (plain_star rfl [] X.env)) (plain_star hp _ X.env)) i4 i5 (plain_star hp _ X.env) (by rw [plain_star rfl]; rfl), fun Z σ H ρ F Q S p => ?_⟩
  rw [evE] at p
  refine one ha2 (g := fun x => (isK k x).map fun b => Sl.v (.bl b)) (k := fun s H' ρ' F' => ∀ x, RX X.K FA Z σ ρ' F' H' x s → Q x H') S p fun H2 ρ2 F2 x a s S2 rx es k2 => ?_
  obtain ⟨b, hb, rfl⟩ := Option.map_eq_some_iff.mp es
  have q := kd_ok k a b hb
  rw [hk] at q
  refine ⟨by rw [← SZ_eq]; show 2 ≤ SZ; decide, fun tp hn => ?_⟩
  obtain ⟨S3, E3⟩ := S2.grow (o := .tup [.ty t, .ty u]) hn
  have ty := ty_of S2.sub rx hb
  have rx' : RQ X.K FA (upd H2 tp (.tup [.ty t, .ty u])) (upd H2 tp (.tup [.ty t, .ty u])) x a := .inl ((rx.rp S2.sub).mono (Sub.upd .refl hn))
  exact ⟨x, tp, [.ty t, .ty u], .type (tyN a), [.type t, .type u], b, rfl, upd_same, paired_ty [t, u], ty_of .refl rx' hb, kitL_ok q, k2 _ _ E3 S3 _ (.v (.bl b))⟩

/-! ### min, max, sorted -/
section
variable {X : Cx} {FA : Nat → Option Addr}
theorem alike_intsD (n : Int) (ns : List Int) : AlikeAll (PyData.int n :: ns.map PyData.int) := by
  have h : ∀ d, d ∈ (PyData.int n :: ns.map PyData.int) → ∃ i, d = PyData.int i := fun d hd => by
    rcases List.mem_cons.mp hd with rfl | hd
    · exact ⟨n, rfl⟩
    · obtain ⟨i, _, rfl⟩ := List.mem_map.mp hd
      exact ⟨i, rfl⟩
  refine ⟨fun x hx y hy => ?_, fun x hx => ?_⟩
  · obtain ⟨i, rfl⟩ := h x hx
    obtain ⟨j, rfl⟩ := h y hy
    rfl
  · obtain ⟨i, rfl⟩ := h x hx
    intro e
    cases e
theorem depth_intsD (n : Int) (ns : List Int) : PyData.depthAll (PyData.int n :: ns.map PyData.int) = 0 := by
  have := depth_ints (n :: ns)
  exact this
def rBest (K : PySem.W.Frag) (f : Int → Int → Int) : List V → Hp → VK → Prop := fun xs H Q => ∃ (a : Addr) (n : Int) (ns : List Int), xs = [V.ref a] ∧ (SqL K H a ((n :: ns).map V.int) ∨ SqT K H a ((n :: ns).map V.int)) ∧ Q (.int (ns.foldl f n)) H
theorem cr_minA (hc : X.calm = true) (hu : X.A.units + 65 < cLine) : CallR X (.builtin "min") (rBest X.K min) := by
  intro pins s σ H vs us Q I r h
  obtain ⟨a, n, ns, rfl, hs, q⟩ := h
  rw [Vals.ref1 r]
  have fin : ∀ (v : Value) h' tk bs, Reads h' v (minD (.int n) (ns.map .int)) bs → (∀ b o, s.heap.get? b = some o → h'.get? b = some o) → EP X pins σ Q v { s with heap := h', toks := tk } := fun v h' tk bs hr hk => by
    rw [minD_ints] at hr
    cases hr
    exact ⟨.int _, H, I.kept hk, ⟨_, rfl⟩, q⟩
  rcases hs with hs | hs
  · obtain ⟨its, rv, hl, _⟩ := I.list hs
    exact min_list_data (I.ok.hd hc) hl.isList (as := []) (by have := (Vals.ints rv).reads s.heap; simpa using this) (alike_intsD n ns) (by rw [depth_intsD]; omega) fun i v h' tk bs _ hr hk => fin v h' tk bs hr hk
  · obtain ⟨its, rv, hl, _⟩ := I.tuple hs
    exact min_tuple_data (I.ok.hd hc) hl (as := []) (by have := (Vals.ints rv).reads s.heap; simpa using this) (alike_intsD n ns) (by rw [depth_intsD]; omega) fun i v h' tk bs _ hr hk => fin v h' tk bs hr hk
theorem cr_maxA (hc : X.calm = true) (hu : X.A.units + 65 < cLine) : CallR X (.builtin "max") (rBest X.K max) := by
  intro pins s σ H vs us Q I r h
  obtain ⟨a, n, ns, rfl, hs, q⟩ := h
  rw [Vals.ref1 r]
  have fin : ∀ (v : Value) h' tk bs, Reads h' v (maxD (.int n) (ns.map .int)) bs → (∀ b o, s.heap.get? b = some o → h'.get? b = some o) → EP X pins σ Q v { s with heap := h', toks := tk } := fun v h' tk bs hr hk => by
    rw [maxD_ints] at hr
    cases hr
    exact ⟨.int _, H, I.kept hk, ⟨_, rfl⟩, q⟩
  rcases hs with hs | hs
  · obtain ⟨its, rv, hl, _⟩ := I.list hs
    exact max_list_data (I.ok.hd hc) hl.isList (as := []) (by have := (Vals.ints rv).reads s.heap; simpa using this) (alike_intsD n ns) (by rw [depth_intsD]; omega) fun i v h' tk bs _ hr hk => fin v h' tk bs hr hk
  · obtain ⟨its, rv, hl, _⟩ := I.tuple hs
    exact max_tuple_data (I.ok.hd hc) hl (as := []) (by have := (Vals.ints rv).reads s.heap; simpa using this) (alike_intsD n ns) (by rw [depth_intsD]; omega) fun i v h' tk bs _ hr hk => fin v h' tk bs hr hk
/-- items as data -/
theorem mm_of {ds : List D} (h : mmOk ds = true) : (∀ a ∈ ds, ∀ b ∈ ds, alk a b = true) ∧ plns ds = true ∧ (∀ d ∈ ds, d ≠ .non) ∧ deps ds ≤ 60 := by
  unfold mmOk allAlk at h
  simp only [Bool.and_eq_true, List.all_eq_true, decide_eq_true_eq] at h
  obtain ⟨⟨⟨h1, h2⟩, h3⟩, h4⟩ := h
  refine ⟨h1, h2, fun d hd e => ?_, h4⟩
  subst e
  exact absurd (h3 _ hd) (by decide)
theorem plns_mem' : ∀ {ds : List D}, plns ds = true → ∀ d ∈ ds, pln d = true
  | [], _, d, hd => by cases hd
  | e :: ds, h, d, hd => by
    rw [plns, Bool.and_eq_true] at h
    rcases List.mem_cons.mp hd with rfl | hd
    · exact h.1
    · exact plns_mem' h.2 d hd
theorem py_non {d : D} (h : pln d = true) (hn : d ≠ .non) : py d ≠ .none := by
  cases d <;> first | (exact absurd rfl hn) | (cases h; done) | simp [py]
theorem alikeAll_py {ds : List D} (h : mmOk ds = true) : AlikeAll (pys ds) := by
  obtain ⟨h1, h2, h3, h4⟩ := mm_of h
  rw [pys_map]
  refine ⟨fun x hx y hy => ?_, fun x hx => ?_⟩
  · obtain ⟨a, ha, rfl⟩ := List.mem_map.mp hx
    obtain ⟨b, hb, rfl⟩ := List.mem_map.mp hy
    rw [alk_py a b (plns_mem' h2 a ha) (plns_mem' h2 b hb)]
    exact h1 a ha b hb
  · obtain ⟨a, ha, rfl⟩ := List.mem_map.mp hx
    exact py_non (plns_mem' h2 a ha) (h3 a ha)
def rBestD (K : PySem.W.Frag) (f : PyData → List PyData → PyData) : List V → Hp → VK → Prop := fun xs H Q => ∃ (a : Addr) (ys : List V) (x : PyData) (ds : List PyData), xs = [V.ref a] ∧ (SqL K H a ys ∨ SqT K H a ys) ∧ DpAll K H ys (x :: ds) ∧ AlikeAll (x :: ds) ∧ PyData.depthAll (x :: ds) ≤ 60 ∧
  ∀ (i : Nat) (v : V), ys[i]? = some v → (x :: ds)[i]? = some (f x ds) → Q v H
theorem fold_mem {α : Type} {f : α → α → α} (hf : ∀ a b, f a b = a ∨ f a b = b) : ∀ (xs : List α) (x : α), xs.foldl f x ∈ x :: xs
  | [], x => List.mem_singleton.mpr rfl
  | y :: xs, x => by
    rw [List.foldl_cons]
    have h := fold_mem hf xs (f x y)
    rcases List.mem_cons.mp h with h | h
    · rw [h]
      rcases hf x y with e | e <;> rw [e] <;> simp
    · exact List.mem_cons_of_mem _ (List.mem_cons_of_mem _ h)
theorem best_unique {h h' : Heap} {vs : List Value} {x : PyData} {ds : List PyData} {as bs : List Addr} {i : Nat} {v : Value} {m : PyData} (hr : ReadsAll h vs (x :: ds) as) (ha : AlikeAll (x :: ds)) (hm : m ∈ x :: ds) (hv : vs[i]? = some v) (r : Reads h' v m bs) (hk : ∀ b o, h.get? b = some o → h'.get? b = some o) : (x :: ds)[i]? = some m := by
  obtain ⟨cs, r2, hi, h2, _⟩ := PySem.W.readsAll_at hr i v hv
  have e := PySem.W.alike_unique _ _ v _ _ (ha.1 _ h2 _ hm) (PySem.W.reads_keeps hk r2) r
  rw [← e, List.getD_eq_getElem?_getD, List.getElem?_eq_getElem hi]
  rfl
theorem vals_getR : ∀ {xs : List V} {us : List Value} {i : Nat} {u : Value}, Vals xs us → us[i]? = some u → ∃ x, xs[i]? = some x ∧ RelV x u
  | _, _, _, _, .nil, e => by simp at e
  | _, _, 0, _, .cons r _, e => by simp at e; subst e; exact ⟨_, rfl, r⟩
  | _, _, i + 1, x, .cons _ t, e => by
    obtain ⟨u, h1, h2⟩ := vals_getR (i := i) (u := x) t (by simpa using e)
    exact ⟨u, by simpa using h1, h2⟩
theorem cr_minDA (hc : X.calm = true) (hu : X.A.units + 65 < cLine) : CallR X (.builtin "min") (rBestD X.K minD) := by
  intro pins s σ H vs us Q I r h
  obtain ⟨a, ys, x, ds, rfl, hs, hd, ha, hz, q⟩ := h
  rw [Vals.ref1 r]
  have hm : minD x ds ∈ x :: ds := fold_mem (fun a b => by split <;> simp) ds x
  have fin : ∀ (its : List Value) (as : List Addr) (rv : Vals ys its) (hr : ReadsAll s.heap its (x :: ds) as) (i : Nat) (v : Value) h' tk bs, its[i]? = some v → Reads h' v (minD x ds) bs → (∀ b o, s.heap.get? b = some o → h'.get? b = some o) → EP X pins σ Q v { s with heap := h', toks := tk } := fun its as rv hr i v h' tk bs hi hb hk => by
    have e := best_unique hr ha hm hi hb hk
    obtain ⟨y, hy, ry⟩ := vals_getR rv hi
    exact ⟨y, H, I.kept hk, ry, q i y hy e⟩
  rcases hs with hs | hs
  · obtain ⟨its, rv, hl, _⟩ := I.list hs
    obtain ⟨as, hr⟩ := Dp.readsAll I _ _ its hd rv
    exact min_list_data (I.ok.hd hc) hl.isList (as := as) (by simpa using hr) ha (by omega) fun i v h' tk bs hi hb hk => fin its as rv hr i v h' tk bs (by simpa using hi) hb hk
  · obtain ⟨its, rv, hl, _⟩ := I.tuple hs
    obtain ⟨as, hr⟩ := Dp.readsAll I _ _ its hd rv
    exact min_tuple_data (I.ok.hd hc) hl (as := as) (by simpa using hr) ha (by omega) fun i v h' tk bs hi hb hk => fin its as rv hr i v h' tk bs (by simpa using hi) hb hk
theorem cr_maxDA (hc : X.calm = true) (hu : X.A.units + 65 < cLine) : CallR X (.builtin "max") (rBestD X.K maxD) := by
  intro pins s σ H vs us Q I r h
  obtain ⟨a, ys, x, ds, rfl, hs, hd, ha, hz, q⟩ := h
  rw [Vals.ref1 r]
  have hm : maxD x ds ∈ x :: ds := fold_mem (fun a b => by split <;> simp) ds x
  have fin : ∀ (its : List Value) (as : List Addr) (rv : Vals ys its) (hr : ReadsAll s.heap its (x :: ds) as) (i : Nat) (v : Value) h' tk bs, its[i]? = some v → Reads h' v (maxD x ds) bs → (∀ b o, s.heap.get? b = some o → h'.get? b = some o) → EP X pins σ Q v { s with heap := h', toks := tk } := fun its as rv hr i v h' tk bs hi hb hk => by
    have e := best_unique hr ha hm hi hb hk
    obtain ⟨y, hy, ry⟩ := vals_getR rv hi
    exact ⟨y, H, I.kept hk, ry, q i y hy e⟩
  rcases hs with hs | hs
  · obtain ⟨its, rv, hl, _⟩ := I.list hs
    obtain ⟨as, hr⟩ := Dp.readsAll I _ _ its hd rv
    exact max_list_data (I.ok.hd hc) hl.isList (as := as) (by simpa using hr) ha (by omega) fun i v h' tk bs hi hb hk => fin its as rv hr i v h' tk bs (by simpa using hi) hb hk
  · obtain ⟨its, rv, hl, _⟩ := I.tuple hs
    obtain ⟨as, hr⟩ := Dp.readsAll I _ _ its hd rv
    exact max_tuple_data (I.ok.hd hc) hl (as := as) (by simpa using hr) ha (by omega) fun i v h' tk bs hi hb hk => fin its as rv hr i v h' tk bs (by simpa using hi) hb hk
theorem fold_py {g : D → D → Bool} {g' : PyData → PyData → Bool} : ∀ (ds : List D) (d : D) (S : List D), (∀ a ∈ S, ∀ b ∈ S, g' (py a) (py b) = g a b) → d ∈ S → (∀ x ∈ ds, x ∈ S) →
    (pys ds).foldl (fun a y => if g' y a then y else a) (py d) = py (ds.foldl (fun m x => if g x m then x else m) d)
  | [], d, S, _, _, _ => rfl
  | x :: ds, d, S, h, hd, hs => by
    rw [pys, List.foldl_cons, List.foldl_cons, h x (hs x List.mem_cons_self) d hd]
    by_cases e : g x d = true
    · rw [if_pos e, if_pos e]
      exact fold_py ds x S h (hs x List.mem_cons_self) fun y hy => hs y (List.mem_cons_of_mem _ hy)
    · rw [if_neg e, if_neg e]
      exact fold_py ds d S h hd fun y hy => hs y (List.mem_cons_of_mem _ hy)
theorem fold_py2 {g : D → D → Bool} {g' : PyData → PyData → Bool} : ∀ (ds : List D) (d : D) (S : List D), (∀ a ∈ S, ∀ b ∈ S, g' (py a) (py b) = g a b) → d ∈ S → (∀ x ∈ ds, x ∈ S) →
    (pys ds).foldl (fun a y => if g' a y then y else a) (py d) = py (ds.foldl (fun m x => if g m x then x else m) d)
  | [], d, S, _, _, _ => rfl
  | x :: ds, d, S, h, hd, hs => by
    rw [pys, List.foldl_cons, List.foldl_cons, h d hd x (hs x List.mem_cons_self)]
    by_cases e : g d x = true
    · rw [if_pos e, if_pos e]
      exact fold_py2 ds x S h (hs x List.mem_cons_self) fun y hy => hs y (List.mem_cons_of_mem _ hy)
    · rw [if_neg e, if_neg e]
      exact fold_py2 ds d S h hd fun y hy => hs y (List.mem_cons_of_mem _ hy)
theorem ord_py {ds : List D} (h : mmOk ds = true) : ∀ a ∈ ds, ∀ b ∈ ds, PySem.W.dataLt (py a) (py b) = plt a b := fun a ha b hb => by
  obtain ⟨h1, h2, h3, h4⟩ := mm_of h
  exact plt_py a b (plns_mem' h2 a ha) (plns_mem' h2 b hb) (h1 a ha b hb)
theorem bestD_rd {K : PySem.W.Frag} {f : PyData → List PyData → PyData} {best : List D → Option D} {xs : List V} {ds : List D} {F H : Hp} {a : Addr} {s : Sl} {Q : VK} (S : Sub F H) (h1 : SqL K H a xs ∨ SqT K H a xs) (r : Rps K FA F xs ds)
    (hb : ∀ d r m, mmOk (d :: r) = true → best (d :: r) = some m → m ∈ d :: r ∧ f (py d) (pys r) = py m) (hn : best [] = none) (e : (if mmOk ds = true then (best ds).map Sl.v else none) = some s) (q : ∀ v d, s = .v d → Rp K FA F v d → Q v H) : rBestD K f [.ref a] H Q := by
  by_cases hm : mmOk ds = true
  · rw [if_pos hm] at e
    obtain ⟨m, em, rfl⟩ := Option.map_eq_some_iff.mp e
    cases ds with
    | nil => rw [hn] at em; cases em
    | cons d rest =>
      obtain ⟨hmem, hf⟩ := hb d rest m hm em
      obtain ⟨_, h2, _, h4⟩ := mm_of hm
      refine ⟨a, xs, py d, pys rest, rfl, h1, (r.mono S).dp h2, alikeAll_py hm, ?_, fun i v hi hv => ?_⟩
      · have := deps_pys (d :: rest)
        rw [pys] at this
        rw [this]
        exact h4
      · obtain ⟨d', hd', rd⟩ := r.getV hi
        have e2 : (pys (d :: rest))[i]? = some (py m) := by
          rw [pys, hv, hf]
        rw [pys_map, List.getElem?_map, hd'] at e2
        have e3 : py d' = py m := Option.some.inj e2
        have e4 := py_inj d' m (plns_mem' h2 d' (List.mem_of_getElem? hd')) (plns_mem' h2 m hmem) e3
        subst e4
        exact q v d' rfl rd
  · rw [if_neg hm] at e
    cases e
theorem least_f {d : D} {r : List D} {m : D} (h : mmOk (d :: r) = true) (e : leastD (d :: r) = some m) : m ∈ d :: r ∧ minD (py d) (pys r) = py m := by
  cases e
  refine ⟨fold_mem (fun a b => by split <;> simp) r d, ?_⟩
  exact fold_py r d (d :: r) (ord_py h) List.mem_cons_self fun x hx => List.mem_cons_of_mem _ hx
theorem most_f {d : D} {r : List D} {m : D} (h : mmOk (d :: r) = true) (e : mostD (d :: r) = some m) : m ∈ d :: r ∧ maxD (py d) (pys r) = py m := by
  cases e
  refine ⟨fold_mem (fun a b => by split <;> simp) r d, ?_⟩
  exact fold_py2 r d (d :: r) (ord_py h) List.mem_cons_self fun x hx => List.mem_cons_of_mem _ hx
theorem bi_mm {f : Value} {b : Bi} {g : Int → Int → Int} {fd : PyData → List PyData → PyData} {best : List D → Option D} (h1 : CallR X f (rBest X.K g)) (h2 : CallR X f (rBestD X.K fd))
    (hL : ∀ ds, biD b (.lst ds) = match intsD ds with | some (n :: ns) => some (.v (.int (ns.foldl g n))) | some [] => none | none => if mmOk ds then (best ds).map .v else none)
    (hT : ∀ ds, biD b (.tup ds) = match intsD ds with | some (n :: ns) => some (.v (.int (ns.foldl g n))) | some [] => none | none => if mmOk ds then (best ds).map .v else none)
    (hO : ∀ d s, biD b d = some s → (∃ ds, d = .lst ds) ∨ ∃ ds, d = .tup ds) (hb : ∀ d r m, mmOk (d :: r) = true → best (d :: r) = some m → m ∈ d :: r ∧ fd (py d) (pys r) = py m) (hn : best [] = none) : BiD X FA f (biD b) := by
  refine ⟨_, h1.or h2, fun Z σ H ρ F x a s Q S rx es q => ?_⟩
  have key : ∀ (p1 : Addr) (xs : List V) (ds : List D), x = .ref p1 → (SqL X.K H p1 xs ∨ SqT X.K H p1 xs) → Rps X.K FA F xs ds → (match intsD ds with | some (n :: ns) => some (Sl.v (.int (ns.foldl g n))) | some [] => none | none => if mmOk ds then (best ds).map .v else none) = some s → rBest X.K g [x] H Q ∨ rBestD X.K fd [x] H Q := fun p1 xs ds ex hs r e => by
    subst ex
    cases hi : intsD ds with
    | some l =>
      rw [hi] at e
      cases l with
      | nil => cases e
      | cons n ns =>
        cases e
        refine .inl ⟨p1, n, ns, rfl, ?_, q _ H F .refl S (.v (.int _))⟩
        rw [← r.intsD hi]
        exact hs
    | none =>
      rw [hi] at e
      exact .inr (bestD_rd S.sub hs r hb hn e fun v d es rd => by
        subst es
        exact q v H F .refl S (.v rd))
  rcases hO a s es with ⟨ds, rfl⟩ | ⟨ds, rfl⟩
  · rw [hL] at es
    obtain ⟨p1, xs, ex, h1, r1⟩ := rx.lst S.sub
    exact key p1 xs ds ex (.inl (.inl (.inl h1))) r1 es
  · rw [hT] at es
    obtain ⟨p1, xs, ex, h1, r1⟩ := rx.tup S.sub
    exact key p1 xs ds ex (.inr h1) r1 es
theorem bi_min (hc : X.calm = true) (hu : X.A.units + 65 < cLine) : BiD X FA (.builtin "min") (biD .min) :=
  bi_mm (best := leastD) (cr_minA hc hu) (cr_minDA hc hu) (fun _ => rfl) (fun _ => rfl) (fun d s h => by
    cases d <;> first | exact .inl ⟨_, rfl⟩ | exact .inr ⟨_, rfl⟩ | cases h) (fun d r m => least_f) rfl
theorem bi_max (hc : X.calm = true) (hu : X.A.units + 65 < cLine) : BiD X FA (.builtin "max") (biD .max) :=
  bi_mm (best := mostD) (cr_maxA hc hu) (cr_maxDA hc hu) (fun _ => rfl) (fun _ => rfl) (fun d s h => by
    cases d <;> first | exact .inl ⟨_, rfl⟩ | exact .inr ⟨_, rfl⟩ | cases h) (fun d r m => most_f) rfl
theorem ints_rps {K : PySem.W.Frag} {FA : Nat → Option Addr} {F : Hp} : ∀ ns : List Int, Rps K FA F (ns.map V.int) (ns.map D.int)
  | [] => .nil
  | n :: ns => .cons (.int n) (ints_rps ns)
theorem insI_perm (x : Int) : ∀ ys : List Int, (insI x ys).Perm (x :: ys)
  | [] => .refl _
  | y :: ys => by
    rw [insI]
    split
    · exact .refl _
    · exact ((insI_perm x ys).cons y).trans (List.Perm.swap x y ys)
theorem isort_perm : ∀ xs : List Int, (isort xs).Perm xs
  | [] => .refl _
  | x :: xs => (insI_perm x (isort xs)).trans ((isort_perm xs).cons x)
theorem insI_pw (x : Int) : ∀ ys : List Int, ys.Pairwise (· ≤ ·) → (insI x ys).Pairwise (· ≤ ·)
  | [], _ => List.pairwise_singleton _ _
  | y :: ys, h => by
    rw [List.pairwise_cons] at h
    rw [insI]
    split
    · rename_i hx
      refine List.pairwise_cons.mpr ⟨fun z hz => ?_, List.pairwise_cons.mpr h⟩
      rcases List.mem_cons.mp hz with rfl | hz
      · exact hx
      · exact Int.le_trans hx (h.1 z hz)
    · rename_i hx
      refine List.pairwise_cons.mpr ⟨fun z hz => ?_, insI_pw x ys h.2⟩
      rcases List.mem_cons.mp ((insI_perm x ys).mem_iff.mp hz) with rfl | hz
      · omega
      · exact h.1 z hz
theorem isort_pw : ∀ xs : List Int, (isort xs).Pairwise (· ≤ ·)
  | [] => .nil
  | x :: xs => insI_pw x _ (isort_pw xs)
theorem sorted_uniq {ns ms : List Int} (p : ms.Perm ns) (h : ms.Pairwise (· ≤ ·)) : ms = isort ns :=
  List.Perm.eq_of_pairwise (le := fun a b => a ≤ b) (fun a b _ _ h1 h2 => by omega) h (isort_pw ns) (p.trans (isort_perm ns).symm)
/-! ### sorted, of data -/
section
variable {α : Type}
def insG (le : α → α → Bool) (x : α) : List α → List α
  | [] => [x]
  | y :: ys => if le x y then x :: y :: ys else y :: insG le x ys
def srtG (le : α → α → Bool) : List α → List α
  | [] => []
  | x :: xs => insG le x (srtG le xs)
theorem insG_mem {le : α → α → Bool} {x z : α} : ∀ {ys : List α}, z ∈ insG le x ys → z = x ∨ z ∈ ys
  | [], h => .inl (List.mem_singleton.mp h)
  | y :: ys, h => by
    rw [insG] at h
    split at h
    · rcases List.mem_cons.mp h with h | h
      · exact .inl h
      · exact .inr h
    · rcases List.mem_cons.mp h with h | h
      · exact .inr (h ▸ List.mem_cons_self)
      · rcases insG_mem h with h | h
        · exact .inl h
        · exact .inr (List.mem_cons_of_mem _ h)
theorem srtG_mem {le : α → α → Bool} {z : α} : ∀ {ys : List α}, z ∈ srtG le ys → z ∈ ys
  | [], h => h
  | y :: ys, h => by
    rcases insG_mem h with h | h
    · exact h ▸ List.mem_cons_self
    · exact List.mem_cons_of_mem _ (srtG_mem h)
theorem insG_pw {le : α → α → Bool} (T : PySem.W.TotalLe le) (x : α) : ∀ ys : List α, ys.Pairwise (fun a b => le a b = true) → (insG le x ys).Pairwise (fun a b => le a b = true)
  | [], _ => List.pairwise_singleton _ _
  | y :: ys, h => by
    rw [List.pairwise_cons] at h
    rw [insG]
    split
    · rename_i hx
      refine List.pairwise_cons.mpr ⟨fun z hz => ?_, List.pairwise_cons.mpr h⟩
      rcases List.mem_cons.mp hz with rfl | hz
      · exact hx
      · exact T.trans _ _ _ hx (h.1 z hz)
    · rename_i hx
      refine List.pairwise_cons.mpr ⟨fun z hz => ?_, insG_pw T x ys h.2⟩
      rcases insG_mem hz with rfl | hz
      · exact (T.total y z).elim id fun q => absurd q hx
      · exact h.1 z hz
theorem srtG_pw {le : α → α → Bool} (T : PySem.W.TotalLe le) : ∀ xs : List α, (srtG le xs).Pairwise (fun a b => le a b = true)
  | [] => .nil
  | x :: xs => insG_pw T x _ (srtG_pw T xs)
theorem insG_flt {le : α → α → Bool} (T : PySem.W.TotalLe le) (x c : α) : ∀ ys : List α, (insG le x ys).filter (PySem.W.sameRank le c) = (x :: ys).filter (PySem.W.sameRank le c)
  | [] => rfl
  | y :: ys => by
    rw [insG]
    split
    · rfl
    · rename_i hx
      have ih := insG_flt T x c ys
      by_cases hy : PySem.W.sameRank le c y = true
      · have nx : ¬ PySem.W.sameRank le c x = true := fun q => by
          unfold PySem.W.sameRank at q hy
          rw [Bool.and_eq_true] at q hy
          exact hx (T.trans _ _ _ q.2 hy.1)
        rw [List.filter_cons_of_pos hy, ih, List.filter_cons_of_neg nx, List.filter_cons_of_neg nx, List.filter_cons_of_pos hy]
      · rw [List.filter_cons_of_neg hy, ih]
        by_cases hq : PySem.W.sameRank le c x = true
        · rw [List.filter_cons_of_pos hq, List.filter_cons_of_pos hq, List.filter_cons_of_neg hy]
        · rw [List.filter_cons_of_neg hq, List.filter_cons_of_neg hq, List.filter_cons_of_neg hy]
theorem srtG_flt {le : α → α → Bool} (T : PySem.W.TotalLe le) (c : α) : ∀ ys : List α, (srtG le ys).filter (PySem.W.sameRank le c) = ys.filter (PySem.W.sameRank le c)
  | [] => rfl
  | x :: ys => by
    rw [srtG, insG_flt T x c, List.filter_cons, List.filter_cons, srtG_flt T c ys]
theorem srtG_eq {le : α → α → Bool} (T : PySem.W.TotalLe le) (l : List α) : srtG le l = l.mergeSort le := PySem.W.sort_unique T (srtG_pw T l) fun c => srtG_flt T c l
end
def rSortedD (K : PySem.W.Frag) : List V → Hp → VK → Prop := fun vs H Q => ∃ (a : Addr) (bs : List (V × PyData)), vs = [V.ref a] ∧ SqL K H a (bs.map (·.1)) ∧ DpAll K H (bs.map (·.1)) (bs.map (·.2)) ∧ PySem.W.AllAlike (bs.map (·.2)) ∧ PySem.W.Sortable (bs.map (·.2)) ∧ (∀ b ∈ bs, b.2.depth ≤ 61) ∧
  ∀ p, H p = none → Q (.ref p) (upd H p (.lst ((bs.mergeSort (PySem.W.dataLe false (·.2))).map (·.1))))
theorem zip_reads {h : Heap} : ∀ {bs : List (V × PyData)} {its : List Value} {as : List Addr}, Vals (bs.map (·.1)) its → ReadsAll h its (bs.map (·.2)) as → PySem.W.EachIs (fun u (b : V × PyData) => RelV b.1 u) its bs ∧ PySem.W.EachIs (fun u (b : V × PyData) => ∃ as, Reads h u b.2 as) its bs
  | [], _, _, .nil, r => ⟨.nil, .nil⟩
  | b :: bs, _, _, .cons r1 r2, .cons q1 q2 => by
    obtain ⟨h1, h2⟩ := zip_reads r2 q2
    exact ⟨.cons r1 h1, .cons ⟨_, q1⟩ h2⟩
theorem vals_each : ∀ {bs : List (V × PyData)} {its : List Value}, PySem.W.EachIs (fun u (b : V × PyData) => RelV b.1 u) its bs → Vals (bs.map (·.1)) its
  | [], _, .nil => .nil
  | _ :: _, _, .cons r rs => .cons r (vals_each rs)
theorem cr_sortedD (hu : X.A.units + 65 < cLine) : CallR X (.builtin "sorted") (rSortedD X.K) := by
  intro pins s σ H vs us Q I r h
  obtain ⟨a, bs, rfl, hs, hd, hal, hk, hz, q⟩ := h
  obtain ⟨its, rv, hl, hlen⟩ := I.list hs
  rw [Vals.ref1 r]
  obtain ⟨as, hr⟩ := Dp.readsAll I _ _ its hd rv
  obtain ⟨e1, e2⟩ := zip_reads rv hr
  have hL : bs.length ≤ sizeLine := by
    rw [List.length_map] at hlen
    exact hlen
  refine PySem.W.sorted_data (enc := fun b : V × PyData => b.2) (R := fun u (b : V × PyData) => RelV b.1 u) hl.isList e1 e2 hal hk hL (fun b hb => by have := hz b hb; omega) fun out ho he => ?_
  obtain ⟨ep, he'⟩ := PyProof.Rows.sortedAll_at s.heap its out.toArray
  have hlen2 : ((bs.mergeSort (PySem.W.dataLe false (·.2))).map (·.1)).length ≤ sizeLine := by
    rw [List.length_map, List.length_mergeSort]
    exact hL
  exact ⟨.ref _, upd H (s.heap.objs.size + 1) (.lst ((bs.mergeSort (PySem.W.dataLe false (·.2))).map (·.1))), I.laid (t' := s.toks) (fun _ _ => PyProof.Rows.sortedAll_old) (Nat.le_succ _) ⟨hlen2, out, ep, vals_each he, he'⟩, rfl, q _ (I.hok.fresh (Nat.le_succ _))⟩
theorem srt_of {ds : List D} (h : srtOk ds = true) : (∀ a ∈ ds, ∀ b ∈ ds, alk a b = true) ∧ plns ds = true ∧ ds.length ≤ SZ ∧ PySem.W.Sortable (pys ds) ∧ deps ds ≤ 60 := by
  unfold srtOk allAlk at h
  simp only [Bool.and_eq_true, List.all_eq_true, decide_eq_true_eq, Bool.or_eq_true] at h
  obtain ⟨⟨⟨⟨h1, h2⟩, h3⟩, h4⟩, h5⟩ := h
  refine ⟨h1, h2, h3, ?_, h5⟩
  rw [pys_map]
  rcases h4 with h4 | h4
  · left
    intro d hd
    obtain ⟨a, ha, rfl⟩ := List.mem_map.mp hd
    have := h4 a ha
    cases a with
    | tup xs =>
      cases xs with
      | nil => exact absurd this (by decide)
      | cons x xs => exact ⟨_, _, by rw [py, pys]⟩
    | _ => simp at this
  · right
    intro d hd
    obtain ⟨a, ha, rfl⟩ := List.mem_map.mp hd
    have hp := plns_mem' h2 a ha
    have := h4 a ha
    cases a <;> first | (simp at this; done) | (cases hp; done) | simp [py]
theorem Rps.zipP {K : PySem.W.Frag} {FA : Nat → Option Addr} {F : Hp} {xs : List V} {ds : List D} (r : Rps K FA F xs ds) : ∃ bs : List (V × D), bs.map (·.1) = xs ∧ bs.map (·.2) = ds ∧ ∀ b ∈ bs, Rp K FA F b.1 b.2 := by
  induction xs generalizing ds with
  | nil =>
    cases r
    exact ⟨[], rfl, rfl, fun b hb => by cases hb⟩
  | cons x xs ih =>
    cases r with
    | @cons _ _ d ds h r =>
      obtain ⟨bs, h1, h2, h3⟩ := ih r
      refine ⟨(x, d) :: bs, by rw [List.map_cons, h1], by rw [List.map_cons, h2], fun b hb => ?_⟩
      rcases List.mem_cons.mp hb with rfl | hb
      · exact h
      · exact h3 b hb
theorem Rps.ofP {K : PySem.W.Frag} {FA : Nat → Option Addr} {F : Hp} : ∀ {bs : List (V × D)}, (∀ b ∈ bs, Rp K FA F b.1 b.2) → Rps K FA F (bs.map (·.1)) (bs.map (·.2))
  | [], _ => .nil
  | b :: bs, h => .cons (h b List.mem_cons_self) (Rps.ofP fun c hc => h c (List.mem_cons_of_mem _ hc))
theorem ins_snd {β : Type} {le : β → β → Bool} {f : β → D} {S : β → Prop} (h : ∀ a b, S a → S b → le a b = !plt (f b) (f a)) (x : β) (hx : S x) : ∀ ys : List β, (∀ y ∈ ys, S y) → (insG le x ys).map f = insD (f x) (ys.map f)
  | [], _ => rfl
  | y :: ys, hs => by
    rw [insG, List.map_cons, insD, h x y hx (hs y List.mem_cons_self)]
    by_cases e : (!plt (f y) (f x)) = true
    · rw [if_pos e, if_pos e]
      rfl
    · rw [if_neg e, if_neg e, List.map_cons, ins_snd h x hx ys fun z hz => hs z (List.mem_cons_of_mem _ hz)]
theorem srt_snd {β : Type} {le : β → β → Bool} {f : β → D} {S : β → Prop} (h : ∀ a b, S a → S b → le a b = !plt (f b) (f a)) : ∀ ys : List β, (∀ y ∈ ys, S y) → (srtG le ys).map f = srt (ys.map f)
  | [], _ => rfl
  | y :: ys, hs => by
    rw [srtG, ins_snd h y (hs y List.mem_cons_self) _ fun z hz => hs z (List.mem_cons_of_mem _ (srtG_mem hz)), srt_snd h ys fun z hz => hs z (List.mem_cons_of_mem _ hz)]
    rfl
theorem dep_mem' : ∀ {ds : List D} {d : D}, d ∈ ds → dep d ≤ deps ds
  | e :: ds, d, h => by
    rw [deps]
    rcases List.mem_cons.mp h with rfl | h
    · exact Nat.le_max_left _ _
    · exact Nat.le_trans (dep_mem' h) (Nat.le_max_right _ _)
theorem bi_sorted (hu : X.A.units + 65 < cLine) : BiD X FA (.builtin "sorted") (biD .sorted) := by
  refine ⟨_, cr_sortedI.or (cr_sortedD hu), fun Z σ H ρ F x a s Q S rx es q => ?_⟩
  cases a with
  | lst ds =>
    have es : (match intsD ds with | some ns => some (Sl.o (.lst ((isort ns).map .int))) | none => if srtOk ds = true then some (.o (.lst (srt ds))) else none) = some s := es
    obtain ⟨p1, xs, rfl, h1, r1⟩ := rx.lst S.sub
    cases hn : intsD ds with
    | some ns =>
      rw [hn] at es
      cases es
      refine .inl ⟨p1, ns, rfl, .inl (.inl ?_), fun ns' p hp hs hn' => ?_⟩
      · rw [← r1.intsD hn]
        exact h1
      · obtain rfl := sorted_uniq hp hs
        exact res_lst S (ints_rps _) q p hn'
    | none =>
      rw [hn] at es
      by_cases hk : srtOk ds = true
      · have es : (if srtOk ds = true then some (Sl.o (.lst (srt ds))) else none) = some s := es
        rw [if_pos hk] at es
        cases es
        obtain ⟨k1, k2, k3, k4, k5⟩ := srt_of hk
        obtain ⟨bs, b1, b2, b3⟩ := r1.zipP
        have bm : ∀ b ∈ bs, b.2 ∈ ds := fun b hb => by rw [← b2]; exact List.mem_map.mpr ⟨b, hb, rfl⟩
        have c1 : (bs.map fun b => (b.1, py b.2)).map (·.1) = xs := by rw [List.map_map]; exact b1
        have c2 : (bs.map fun b => (b.1, py b.2)).map (·.2) = pys ds := by rw [List.map_map, pys_map, ← b2, List.map_map]; rfl
        have ord : ∀ a b : V × D, a ∈ bs → b ∈ bs → PySem.W.dataLe false (fun b : V × D => py b.2) a b = !plt b.2 a.2 := fun a b ha hb => by
          rw [PySem.W.dataLe_eq]
          show (!PySem.W.dataLt (py b.2) (py a.2)) = _
          rw [plt_py b.2 a.2 (plns_mem' k2 _ (bm b hb)) (plns_mem' k2 _ (bm a ha)) (k1 _ (bm b hb) _ (bm a ha))]
        refine .inr ⟨p1, bs.map fun b => (b.1, py b.2), rfl, by rw [c1]; exact .inl (.inl h1), by rw [c1, c2]; exact (r1.mono S.sub).dp k2, by rw [c2, pys_map]; intro d hd d' hd'; obtain ⟨a, ha, rfl⟩ := List.mem_map.mp hd; obtain ⟨b, hb, rfl⟩ := List.mem_map.mp hd'; rw [alk_py a b (plns_mem' k2 a ha) (plns_mem' k2 b hb)]; exact k1 a ha b hb, by rw [c2]; exact k4, fun b hb => ?_, ?_⟩
        · obtain ⟨b', hb', rfl⟩ := List.mem_map.mp hb
          show (py b'.2).depth ≤ 61
          rw [dep_py]
          have := dep_mem' (bm b' hb')
          omega
        · have e1 : ((bs.map fun b => (b.1, py b.2)).mergeSort (PySem.W.dataLe false (·.2))).map (·.1) = (srtG (PySem.W.dataLe false fun b : V × D => py b.2) bs).map (·.1) := by
            rw [srtG_eq (le := PySem.W.dataLe false fun b : V × D => py b.2) (PySem.W.sortLe_total _ _ _), ← PySem.W.sort_maps (r := PySem.W.dataLe false fun b : V × D => py b.2) (fun b : V × D => (b.1, py b.2)) (fun a _ b _ => rfl), List.map_map]
            rfl
          rw [e1]
          have e2 : (srtG (PySem.W.dataLe false fun b : V × D => py b.2) bs).map (·.2) = srt ds := by
            rw [← b2]
            exact srt_snd (S := fun b => b ∈ bs) ord bs fun y hy => hy
          refine res_lst S ?_ q
          rw [← e2]
          exact Rps.ofP fun b hb => b3 b (srtG_mem hb)
      · have es : (if srtOk ds = true then some (Sl.o (.lst (srt ds))) else none) = some s := es
        rw [if_neg hk] at es
        cases es
  | _ => cases es
/-! ### two values -/
theorem Rps.strsD {K : PySem.W.Frag} {FA : Nat → Option Addr} {F : Hp} : ∀ {xs : List V} {ds : List D} {ss : List (List Nat)}, Rps K FA F xs ds → Rf.strsD ds = some ss → xs = (ss.map fun s => (⟨s.toArray⟩ : Str)).map V.str ∧ ∀ s ∈ ss, ∀ c ∈ s, c < 1114112
  | _, _, ss, .nil, h => by
    cases h
    exact ⟨rfl, fun s hs => by cases hs⟩
  | _, d :: ds, ss, .cons r rs, h => by
    cases d with
    | str z =>
      have h : ((Rf.strsD ds).map fun ns => z :: ns) = some ss := h
      obtain ⟨ns, hn, rfl⟩ := Option.map_eq_some_iff.mp h
      obtain ⟨e1, e2⟩ := Rps.strsD rs hn
      cases r with | str _ hz =>
      refine ⟨by rw [e1]; rfl, fun s hs => ?_⟩
      rcases List.mem_cons.mp hs with rfl | hs
      · exact hz
      · exact e2 s hs
    | _ => cases h
theorem joinN_go (sep : List Nat) : ∀ ss : List (List Nat), Txt.join ⟨sep.toArray⟩ (ss.map fun s => (⟨s.toArray⟩ : Str)) = ⟨(joinN sep ss).toArray⟩ := fun ss => by
  have go : ∀ ss : List (List Nat), Str.join ⟨sep.toArray⟩ (ss.map fun s => (⟨s.toArray⟩ : Str)) = ⟨(joinN sep ss).toArray⟩ := fun ss => by
    induction ss with
    | nil => rfl
    | cons x r ih =>
      cases r with
      | nil => rfl
      | cons y r =>
        have ih2 : Str.join ⟨sep.toArray⟩ ((⟨y.toArray⟩ : Str) :: r.map fun s => (⟨s.toArray⟩ : Str)) = ⟨(joinN sep (y :: r)).toArray⟩ := ih
        show (⟨x.toArray⟩ : Str) ++ ⟨sep.toArray⟩ ++ Str.join ⟨sep.toArray⟩ ((⟨y.toArray⟩ : Str) :: r.map fun s => (⟨s.toArray⟩ : Str)) = _
        rw [ih2]
        show (⟨(x.toArray ++ sep.toArray) ++ (joinN sep (y :: r)).toArray⟩ : Str) = _
        rw [joinN]
        simp
  rw [← go]
  exact StrLaws.glued_eq_join _ _
theorem joinN_mem {sep : List Nat} {P : Nat → Prop} (h0 : ∀ c ∈ sep, P c) : ∀ {ss : List (List Nat)}, (∀ s ∈ ss, ∀ c ∈ s, P c) → ∀ c ∈ joinN sep ss, P c
  | [], _, c, hc => by cases hc
  | [x], h, c, hc => h x (List.mem_singleton_self x) c hc
  | x :: y :: r, h, c, hc => by
    rw [joinN, List.mem_append, List.mem_append] at hc
    rcases hc with (hc | hc) | hc
    · exact h x (by simp) c hc
    · exact h0 c hc
    · exact joinN_mem h0 (ss := y :: r) (fun s hs => h s (List.mem_cons_of_mem _ hs)) c hc
/-- a method of one argument: the class is known when the receiver is -/
structure Alt (X : Cx) (name : Str) (T id : String) (r : V → List V → Hp → VK → Prop) : Prop where
  pa : PlainAttrs T
  slot : Slot T name id
  ty : typeOf (.builtin id) = pure (.type "method_descriptor")
  mt : MtR X id r
def tBMA (X : Cx) (name : Str) (to : TE) (t : TA) (r : String → V → List V → Hp → VK → Prop) : TE := fun σ H Q => to σ H fun x H1 => ∃ T id, Alt X name T id (r T) ∧ tyV X.K T x H1 ∧ t σ H1 fun xs H2 => r T x xs H2 Q
theorem pe_bmA {X : Cx} {o e : Expr} {es : List Expr} {to : TE} {t : TA} {name : Str} {apos cpos : Pos} {r : String → V → List V → Hp → VK → Prop} (ho : PE X o to) (ha : PA X (e :: es) t)
    (hbase : attributeBase o name X.env (eval o X.env) = eval o X.env)
    (hfew : ((backTo cpos (starEach (e :: es) X.env)).all (fun x => !x.1) && (backToKw cpos (keywordEach [] X.env)).all (fun x => x.1.isSome)
      && decide ((e :: es).length + ([] : List Keyword).length + (if ([] : List Keyword).isEmpty then 0 else 1) < 30)) = true)
    (hline : (apos.endLine == cpos.line) = true) (hs : starEach (e :: es) X.env = (false, eval e X.env) :: starEach es X.env) (hplain : (backTo cpos (starEach es X.env)).any (·.1) = false) :
    PE X (.Call (.Attribute o name apos) (e :: es) [] cpos) (tBMA X name to t r) := by
  refine ⟨fun pins s σ H Q I h => ?_⟩
  refine wpAny_Call_method_late hbase hfew hline rfl (thn (ho.run pins s σ H _ I h) fun v s1 ⟨x, H1, I1, r1, T, id, alt, ty, q1⟩ => ?_)
  obtain ⟨h1, h2⟩ := tyV_is I1 r1 ty
  refine ⟨T, id, alt.pa, alt.slot, alt.ty, h1, h2, ?_⟩
  have hA := ha.run cpos pins s1 σ H1 _ I1 q1
  rw [hs] at hA ⊢
  refine Calls.callWith_builtin (by show (false || (backTo cpos (starEach es X.env)).any (·.1)) = false; rw [hplain] <;> rfl) (Calls.evalArgs_plain ?_)
  exact thn hA fun us s2 ⟨vs, H2, I2, r2, q2⟩ => alt.mt pins s2 σ H2 x vs v us Q I2 r1 r2 q2
/-- what the method does, with data -/
def MeD (X : Cx) (FA : Nat → Option Addr) (name : Str) (b : Bi2) : Prop :=
  ∃ r : String → V → List V → Hp → VK → Prop, (∀ d T, rcv b d = some T → ∃ id, Alt X name T id (r T)) ∧
    ∀ (Z : Addr → Prop) (σ : St) (H : Hp) (ρ : Env) (F : Hp) (x y : V) (a c : D) (T : String) (s : Sl) (Q : VK), SR X.K FA Z σ H ρ F → RQ X.K FA F H x a → RQ X.K FA F H y c → rcv b a = some T → bi2D b a c = some s →
      (∀ v H' F', Ext Z F H F' H' → SR X.K FA Z σ H' ρ F' → RX X.K FA Z σ ρ F' H' v s → Q v H') → r T x [y] H Q
theorem rcv_ty {K : PySem.W.Frag} {FA : Nat → Option Addr} {F H : Hp} {x : V} {d : D} {b : Bi2} {T : String} (S : Sub F H) (r : RQ K FA F H x d) (h : rcv b d = some T) : tyV K T x H := by
  cases d with
  | str z => rw [r.str.1]; cases b <;> (cases h <;> rfl)
  | lst ds =>
    obtain ⟨a, xs, rfl, h1, _⟩ := r.lst S
    cases b <;> (cases h <;> exact .inl ⟨rfl, xs, .inl (.inl h1)⟩)
  | _ => cases b <;> cases h
theorem s_met {C : CC} {pos apos : Pos} {x y : Expr} {cx cy : P} {name : Str} {b : Bi2} (hm : ∀ X W Φ FA CA, Ok C X W Φ FA CA → MeD X FA name b) (hx : SP C x cx) (hy : SP C y cy) (hp : plainE y = true) (hb : ∀ env : PySem.Env, attributeBase x name env (eval x env) = eval x env) (hl : (apos.endLine == pos.line) = true) :
    SE C (.Call (.Attribute x name apos) [y] [] pos) (.met b cx cy) := fun X W Φ FA CA O => by
  obtain ⟨tx, x1, x2⟩ := hx X W Φ FA CA O
  obtain ⟨ty, y1, y2⟩ := hy X W Φ FA CA O
  obtain ⟨r, al, rd⟩ := hm X W Φ FA CA O
  refine ⟨_, pe_bmA (r := r) x1 (pa_cons y1 pa_nil (plain_star hp [] X.env)) (hb X.env) (by rw [plain_star hp]; rfl) hl (plain_star hp [] X.env) rfl, fun Z σ H ρ F Q S p => ?_⟩
  rw [evE] at p
  refine x2 Z σ H ρ F _ S (p.bind.imp fun q1 H1 ρ1 F1 e1 S1 k1 v1 r1 => ?_)
  cases hd : rs ρ1 q1 with
  | none =>
    rw [hd] at k1
    exact k1.elim
  | some d =>
    rw [hd] at k1
    cases hT : rcv b d with
    | none =>
      rw [show (some d).bind (rcv b) = none from hT] at k1
      exact k1.elim
    | some T =>
      rw [show (some d).bind (rcv b) = some T from hT] at k1
      obtain ⟨id, alt⟩ := al d T hT
      refine ⟨T, id, alt, rcv_ty S1.sub (r1.rs S1 hd) hT, ?_⟩
      refine y2 Z σ H1 ρ1 F1 _ S1 (k1.bind.imp fun q2 H2 ρ2 F2 e2 S2 k2 v2 r2 => ?_)
      obtain ⟨s, es, k3⟩ := k2.ofO
      obtain ⟨a, c, h1, h2, h3⟩ := bind3 es
      have rx := (r1.mono e2.sub).rs S2 h1
      unfold metD at h3
      by_cases hc : rcv b a = some T
      · rw [if_pos hc] at h3
        exact rd Z σ H2 ρ2 F2 v1 v2 a c T s Q S2 rx (r2.rs S2 h2) hc h3 fun v H' F' e' S' R' => k3 H' F' e' S' v R'
      · rw [if_neg hc] at h3
        cases h3
/-! ### join, count -/
def rJoin (K : PySem.W.Frag) : V → List V → Hp → VK → Prop := fun x xs H Q => ∃ (a : Str) (p : Addr) (ys : List Str), x = .str a ∧ xs = [.ref p] ∧ (SqL K H p (ys.map V.str) ∨ SqT K H p (ys.map V.str)) ∧
    (ys.map (·.length)).sum + ys.length * a.length ≤ 16777216 ∧ Q (.str (Txt.join a ys)) H
theorem me_join : MeD X FA "join" .join := by
  refine ⟨fun _ => rJoin X.K, fun d T h => ⟨"str.join", ?_⟩, fun Z σ H ρ F x y a c T s Q S rx ry hT es q => ?_⟩
  · cases d <;> cases h
    exact ⟨PySem.F.plainAttrs_str, PySem.F.slot_str_join, PySem.F.type_str_join, mt_join⟩
  · cases a with
    | str z =>
      have fin : ∀ ds, joinD z ds = some s → ∃ ss, strsD ds = some ss ∧ (ss.map List.length).sum + ss.length * z.length ≤ SZ ∧ s = .v (.str (joinN z ss)) := fun ds h => by
        unfold joinD at h
        obtain ⟨ss, h1, h2⟩ := Option.bind_eq_some_iff.mp h
        by_cases hz : (ss.map List.length).sum + ss.length * z.length ≤ SZ
        · rw [if_pos hz] at h2
          cases h2
          exact ⟨ss, h1, hz, rfl⟩
        · rw [if_neg hz] at h2
          cases h2
      have fin2 : ∀ (ss : List (List Nat)) p xs, (SqL X.K H p xs ∨ SqT X.K H p xs) → (∃ ds, Rps X.K FA F xs ds ∧ strsD ds = some ss) → (ss.map List.length).sum + ss.length * z.length ≤ SZ → s = .v (.str (joinN z ss)) → y = .ref p →
          ∃ (a : Str) (p : Addr) (ys : List Str), x = .str a ∧ [y] = [.ref p] ∧ (SqL X.K H p (ys.map V.str) ∨ SqT X.K H p (ys.map V.str)) ∧ (ys.map (·.length)).sum + ys.length * a.length ≤ 16777216 ∧ Q (.str (Txt.join a ys)) H := fun ss p xs hs ⟨ds, r1, h1⟩ hz e hy => by
        subst e hy
        obtain ⟨e1, e2⟩ := r1.strsD h1
        subst e1
        refine ⟨_, p, _, rx.str.1, rfl, hs, ?_, ?_⟩
        · have : (ss.map fun s => (⟨s.toArray⟩ : Str)).map (·.length) = ss.map List.length := by
            rw [List.map_map]
            apply List.map_congr_left
            intro a _
            exact str_len a
          rw [this, List.length_map, str_len]
          exact hz
        · rw [joinN_go]
          exact q _ H F .refl S (.v (.str _ (joinN_mem rx.str.2 e2)))
      cases c with
      | lst ds =>
        obtain ⟨ss, h1, h2, h3⟩ := fin ds es
        obtain ⟨p1, xs, e, h4, r1⟩ := ry.lst S.sub
        exact fin2 ss p1 xs (.inl (.inl (.inl h4))) ⟨ds, r1, h1⟩ h2 h3 e
      | tup ds =>
        obtain ⟨ss, h1, h2, h3⟩ := fin ds es
        obtain ⟨p1, xs, e, h4, r1⟩ := ry.tup S.sub
        exact fin2 ss p1 xs (.inr h4) ⟨ds, r1, h1⟩ h2 h3 e
      | _ => cases es
    | _ => cases es
theorem occ_one (s sub : Str) (h1 : sub.length = 1) (hi limit : Nat) : ∀ (m k : Nat) (st : Array Nat × Nat), st.2 ≤ k → st.1.size + m ≤ limit →
    (forIn (List.range' k m) st (StrLaws.occBody s sub hi limit)).run.fst.size = st.1.size + (List.range' k m).countP fun i => decide (i + 1 ≤ hi) && Builtin.Str.subAt s sub i
  | 0, k, st, _, _ => by simp
  | m + 1, k, st, hf, hl => by
    rw [List.range'_succ, List.forIn_cons]
    unfold StrLaws.occBody
    split
    · rename_i hc
      have := occ_one s sub h1 hi limit m (k + 1) (st.1.push k, k + sub.length) (by rw [h1]; exact Nat.le_refl _) (by rw [Array.size_push]; omega)
      refine this.trans ?_
      rw [List.countP_cons_of_pos (by rw [h1] at hc; simp only [Bool.and_eq_true, decide_eq_true_eq]; exact ⟨hc.1.2, hc.2⟩), Array.size_push]
      omega
    · rename_i hc
      have := occ_one s sub h1 hi limit m (k + 1) st (by omega) (by omega)
      refine this.trans ?_
      rw [List.countP_cons_of_neg]
      intro hq
      simp only [Bool.and_eq_true, decide_eq_true_eq] at hq
      exact hc ⟨⟨⟨by omega, hf⟩, by rw [h1]; exact hq.1⟩, hq.2⟩
theorem count_rng (c : Nat) : ∀ l : List Nat, (List.range' 0 (l.length + 1)).countP (fun i => decide (i + 1 ≤ l.length) && ((l.drop i).take 1 == [c])) = l.count c
  | [] => by simp
  | x :: l => by
    have ih := count_rng c l
    have e : List.range' 0 ((x :: l).length + 1) = 0 :: (List.range' 0 (l.length + 1)).map (· + 1) := by
      rw [List.length_cons, List.range'_succ]
      congr 1
      apply List.ext_getElem?
      intro i
      rw [List.getElem?_map]
      by_cases hi : i < l.length + 1
      · rw [List.getElem?_range' hi, List.getElem?_range' hi]
        simp
        omega
      · rw [List.getElem?_eq_none (by simp; omega), List.getElem?_eq_none (by simp; omega)]
        rfl
    rw [e, List.countP_cons, List.countP_map, List.count_cons, ← ih]
    congr 1
    · apply List.countP_congr
      intro i _
      simp [Function.comp]
    · simp
theorem count_one (l : List Nat) (c : Nat) : Txt.count ⟨l.toArray⟩ ⟨#[c]⟩ = (l.count c : Nat) := by
  unfold Txt.count
  have e : (Builtin.Str.occurrences ⟨l.toArray⟩ ⟨#[c]⟩ 0 (⟨l.toArray⟩ : Str).length ((⟨l.toArray⟩ : Str).length + 1)).length = l.count c := by
    rw [StrLaws.occ_eq, Array.length_toList]
    have := occ_one ⟨l.toArray⟩ ⟨#[c]⟩ rfl (⟨l.toArray⟩ : Str).length ((⟨l.toArray⟩ : Str).length + 1) ((⟨l.toArray⟩ : Str).length + 1 - 0) 0 ((#[] : Array Nat), 0) (Nat.le_refl _) (by show 0 + _ ≤ _; omega)
    refine this.trans ?_
    rw [← count_rng c l]
    simp only [str_len, Nat.sub_zero]
    rw [show (#[] : Array Nat).size = 0 from rfl, Nat.zero_add]
    apply List.countP_congr
    intro i _
    rw [StrLaws.subAt_eq]
    rfl
  rw [e]
def rCount (K : PySem.W.Frag) (T : String) : V → List V → Hp → VK → Prop := fun x xs H Q =>
  if T = "str" then ∃ a b, x = .str a ∧ xs = [.str b] ∧ Q (.int (Txt.count a b)) H
  else ∃ (a : Addr) (y : V) (d : PyData) (ds : List PyData), x = .ref a ∧ xs = [y] ∧ Dp K H (.ref a) (.list ds) ∧ Dp K H y d ∧ PyData.plainAll ds = true ∧ d.plain = true ∧ min (PyData.depthAll ds) d.depth ≤ 64 ∧ Q (.int ((ds.countP fun y => PyData.eqv y d : Nat) : Int)) H
theorem mt_lcountD (hu : X.A.units + 65 < cLine) : MtR X "list.count" (rCount X.K "list") := by
  intro pins s σ H x xs v us Q I rx rxs h
  have h : ∃ (a : Addr) (y : V) (d : PyData) (ds : List PyData), x = .ref a ∧ xs = [y] ∧ Dp X.K H (.ref a) (.list ds) ∧ Dp X.K H y d ∧ PyData.plainAll ds = true ∧ d.plain = true ∧ min (PyData.depthAll ds) d.depth ≤ 64 ∧ Q (.int ((ds.countP fun y => PyData.eqv y d : Nat) : Int)) H := h
  obtain ⟨a, y, d, ds, rfl, rfl, hl, hy, p1, p2, hz, q⟩ := h
  cases rx
  cases rxs with
  | cons ry rt =>
    rename_i uy ut
    cases rt
    obtain ⟨bs, r1⟩ := Dp.reads I d y uy hy ry
    cases hl with
    | lst hs ha =>
      obtain ⟨its, rv, hl, hlen⟩ := I.list hs
      obtain ⟨as, h4⟩ := Dp.readsAll I ds _ its ha rv
      exact SeqAt.count_list_data hl.isList (by simpa using h4) r1 p1 p2 (by omega) ⟨.int _, H, I.tok _, ⟨_, rfl⟩, q⟩
mutual
theorem plain_py : ∀ d : D, pln d = true → (py d).plain = true
  | .non, _ => rfl
  | .bl b, _ => rfl
  | .int i, _ => rfl
  | .str x, _ => rfl
  | .tup ds, h => by
    rw [py, PyData.plain]
    exact plain_pys ds h
  | .lst ds, h => by
    rw [py, PyData.plain]
    exact plain_pys ds h
  | .fn _, h => by cases h
  | .scr _, h => by cases h
  | .dic _, h => by cases h
theorem plain_pys : ∀ ds : List D, plns ds = true → PyData.plainAll (pys ds) = true
  | [], _ => by rw [pys, PyData.plainAll]
  | d :: ds, h => by
    rw [plns, Bool.and_eq_true] at h
    rw [pys, PyData.plainAll, plain_py d h.1, plain_pys ds h.2]
    rfl
end
theorem me_count (hu : X.A.units + 65 < cLine) : MeD X FA "count" .count := by
  refine ⟨rCount X.K, fun d T h => ?_, fun Z σ H ρ F x y a c T s Q S rx ry hT es q => ?_⟩
  · cases d <;> cases h
    · exact ⟨"str.count", PySem.F.plainAttrs_str, PySem.F.slot_str_count, PySem.F.type_str_count, mt_count⟩
    · exact ⟨"list.count", PySem.F.plainAttrs_list, PySem.F.slot_list_count, PySem.F.type_list_count, mt_lcountD hu⟩
  · cases a with
    | str z =>
      cases hT
      cases c with
      | str w =>
        match w, es, ry with
        | [k], es, ry =>
          cases es
          show ∃ a b, _
          refine ⟨_, _, rx.str.1, congrArg (fun x => [x]) ry.str.1, ?_⟩
          rw [show (⟨[k].toArray⟩ : Str) = ⟨#[k]⟩ from rfl, count_one]
          exact q _ H F .refl S (.v (.int _))
        | [], es, _ => cases es
        | _ :: _ :: _, es, _ => cases es
      | _ => cases es
    | lst ds =>
      cases hT
      have es : (if eqOk c (.lst ds) then some (Sl.v (.int ((ds.countP fun y => peq y c : Nat) : Int))) else none) = some s := es
      by_cases hq : eqOk c (.lst ds) = true
      · rw [if_pos hq] at es
        cases es
        unfold eqOk at hq
        simp only [Bool.and_eq_true, decide_eq_true_eq] at hq
        obtain ⟨⟨q1, q2⟩, q3⟩ := hq
        have q2 : plns ds = true := q2
        have q3 : min (dep c) (deps ds + 1) ≤ 64 := q3
        obtain ⟨a, xs, rfl, h1, r1⟩ := rx.lst S.sub
        refine ⟨a, y, py c, pys ds, rfl, rfl, (Rp.dp (d := .lst ds) (.lst h1 (r1.mono S.sub)) q2), (ry.rp S.sub).dp q1, plain_pys ds q2, plain_py c q1, by rw [deps_pys, dep_py]; omega, ?_⟩
        have e : (pys ds).countP (fun y => PyData.eqv y (py c)) = ds.countP fun y => peq y c := by
          rw [pys_map, List.countP_map]
          apply List.countP_congr
          intro d hd
          have hp : ∀ ds : List D, plns ds = true → ∀ d ∈ ds, pln d = true := fun ds => by
            induction ds with
            | nil => intro _ d hd; cases hd
            | cons e ds ih =>
              intro h d hd
              rw [plns, Bool.and_eq_true] at h
              rcases List.mem_cons.mp hd with rfl | hd
              · exact h.1
              · exact ih h.2 d hd
          show _ ↔ _
          rw [Function.comp, eqv_py d c (hp ds q2 d hd) q1]
        rw [e]
        exact q _ H F .refl S (.v (.int _))
      · rw [if_neg hq] at es
        cases es
    | _ => cases hT
theorem findIdx_py {c : D} (hc : pln c = true) : ∀ {ds : List D} {j : Nat}, plns ds = true → (ds.findIdx? fun y => peq y c) = some j → ∃ z, (pys ds)[j]? = some z ∧ PyData.eqv z (py c) = true ∧ ∀ (m : Nat) (z' : PyData), m < j → (pys ds)[m]? = some z' → PyData.eqv z' (py c) = false := fun {ds j} h e => by
  have hp := plns_mem' h
  obtain ⟨hl, h1, h2⟩ := List.findIdx?_eq_some_iff_getElem.mp e
  have at_ : ∀ m (hm : m < ds.length), (pys ds)[m]? = some (py ds[m]) := fun m hm => by
    rw [pys_map, List.getElem?_map, List.getElem?_eq_getElem hm]
    rfl
  refine ⟨_, at_ j hl, by rw [eqv_py _ _ (hp _ (List.getElem_mem hl)) hc]; exact h1, fun m z' hm hz => ?_⟩
  have hml : m < ds.length := by omega
  rw [at_ m hml] at hz
  cases hz
  rw [eqv_py _ _ (hp _ (List.getElem_mem hml)) hc]
  exact Bool.eq_false_iff.mpr (h2 m hm)
theorem me_index (hu : X.A.units + 65 < cLine) : MeD X FA "index" .index := by
  refine ⟨fun _ => rIndexD X.K, fun d T h => ?_, fun Z σ H ρ F x y a c T s Q S rx ry hT es q => ?_⟩
  · cases d <;> cases h
    exact ⟨"list.index", PySem.F.plainAttrs_list, PySem.F.slot_list_index, PySem.F.type_list_index, mt_indexD hu⟩
  · cases a with
    | lst ds =>
      have es : (if (eqOk c (.lst ds) && decide (dep c ≤ 60) && decide (deps ds ≤ 60)) = true then (ds.findIdx? fun y => peq y c).map fun i => Sl.v (.int (i : Nat)) else none) = some s := es
      by_cases hq : (eqOk c (.lst ds) && decide (dep c ≤ 60) && decide (deps ds ≤ 60)) = true
      · rw [if_pos hq] at es
        obtain ⟨j, hj, rfl⟩ := Option.map_eq_some_iff.mp es
        unfold eqOk at hq
        simp only [Bool.and_eq_true, decide_eq_true_eq] at hq
        obtain ⟨⟨⟨⟨q1, q2⟩, _⟩, q3⟩, q4⟩ := hq
        have q2 : plns ds = true := q2
        obtain ⟨p1, xs, rfl, h1, r1⟩ := rx.lst S.sub
        obtain ⟨z, z1, z2, z3⟩ := findIdx_py q1 q2 hj
        have hl : Rp X.K FA H (.ref p1) (.lst ds) := .lst h1 (r1.mono S.sub)
        have e0 : py (.lst ds) = .list (pys ds) := by rw [py]
        refine ⟨p1, y, py c, pys ds, j, z, rfl, rfl, e0 ▸ hl.dp (d := .lst ds) q2, (ry.rp S.sub).dp q1, ?_, ?_, z1, z2, z3, q _ H F .refl S (.v (.int _))⟩
        · unfold SeqAt.shaped
          rw [Bool.and_eq_true, decide_eq_true_eq]
          refine ⟨e0 ▸ Rp.lay (d := .lst ds) hl q2, ?_⟩
          rw [← e0, dep_py]
          show deps ds + 1 ≤ 64
          omega
        · unfold SeqAt.shaped
          rw [Bool.and_eq_true, decide_eq_true_eq]
          refine ⟨Rp.lay (ry.rp S.sub) q1, ?_⟩
          rw [dep_py]
          omega
      · rw [if_neg hq] at es
        cases es
    | _ => cases hT
/-! ### in -/
theorem plns_mem : ∀ {ds : List D}, plns ds = true → ∀ d ∈ ds, pln d = true
  | [], _, d, hd => by cases hd
  | e :: ds, h, d, hd => by
    rw [plns, Bool.and_eq_true] at h
    rcases List.mem_cons.mp hd with rfl | hd
    · exact h.1
    · exact plns_mem h.2 d hd
theorem any_py {ds : List D} {c : D} (h : plns ds = true) (hc : pln c = true) : ((pys ds).any fun y => PyData.eqv y (py c)) = ds.any fun y => peq y c := by
  rw [pys_map, List.any_map]
  induction ds with
  | nil => rfl
  | cons d ds ih =>
    rw [plns, Bool.and_eq_true] at h
    rw [List.any_cons, List.any_cons, ih h.2, Function.comp, eqv_py d c h.1 hc]
def rInA (K : PySem.W.Frag) (f : Bool → Bool) : R2 := fun x y H Q => ∃ (d : PyData) (ds : List PyData), Dp K H x d ∧ (Dp K H y (.list ds) ∨ Dp K H y (.tuple ds)) ∧ PyData.canLayAll0 ds = true ∧ d.canLay0 = true ∧ min (PyData.depthAll ds) d.depth ≤ 64 ∧ Q (.bl (f (ds.any fun z => PyData.eqv z d))) H
theorem op_inA (hu : X.A.units + 65 < cLine) : OpR X (compareOp .In) (rInA X.K id) := by
  intro pins s σ H x y v u Q I rx ry h
  obtain ⟨d, ds, hd, he, sd, se, hz, q⟩ := h
  obtain ⟨as, r1⟩ := Dp.reads I d x v hd rx
  rcases he with he | he
  · obtain ⟨bs, r2⟩ := Dp.reads I (.list ds) y u he ry
    exact SeqAt.in_list_reads r2 r1 sd se (by omega) ⟨.bl _, H, I, rfl, q⟩
  · obtain ⟨bs, r2⟩ := Dp.reads I (.tuple ds) y u he ry
    exact SeqAt.in_tuple_reads r2 r1 sd se (by omega) ⟨.bl _, H, I, rfl, q⟩
theorem op_ninA (hu : X.A.units + 65 < cLine) : OpR X (compareOp .NotIn) (rInA X.K not) := by
  intro pins s σ H x y v u Q I rx ry h
  obtain ⟨d, ds, hd, he, sd, se, hz, q⟩ := h
  obtain ⟨as, r1⟩ := Dp.reads I d x v hd rx
  rcases he with he | he
  · obtain ⟨bs, r2⟩ := Dp.reads I (.list ds) y u he ry
    exact SeqAt.notIn_list_reads r2 r1 sd se (by omega) ⟨.bl _, H, I, rfl, q⟩
  · obtain ⟨bs, r2⟩ := Dp.reads I (.tuple ds) y u he ry
    exact SeqAt.notIn_tuple_reads r2 r1 sd se (by omega) ⟨.bl _, H, I, rfl, q⟩
theorem in_rd {f : Bool → Bool} {F H : Hp} {x y : V} {a b : D} {r : Bool} {Q : VK} (S : Sub F H) (rx : RQ X.K FA F H x a) (ry : RQ X.K FA F H y b) (e : memD a b = some r) (q : Q (.bl (f r)) H) :
    (∃ (c : Nat) (z : Str), x = .str ⟨#[c]⟩ ∧ y = .str z ∧ Q (.bl (f (decide (c ∈ z.cps.toList)))) H) ∨ rInA X.K f x y H Q := by
  have key : ∀ ds, plns ds = true → pln a = true → min (dep a) (deps ds + 1) ≤ 64 → r = (ds.any fun d => peq d a) → (Dp X.K H y (.list (pys ds)) ∨ Dp X.K H y (.tuple (pys ds))) → PyData.canLayAll0 (pys ds) = true → rInA X.K f x y H Q := fun ds h1 h2 h3 h4 h5 h6 => by
    refine ⟨py a, pys ds, (rx.rp S).dp h2, h5, h6, Rp.lay (rx.rp S) h2, by rw [deps_pys, dep_py]; omega, ?_⟩
    rw [any_py h1 h2, ← h4]
    exact q
  cases b with
  | str w =>
    cases a with
    | str z =>
      match z, e, rx with
      | [c], e, rx =>
        cases e
        refine .inl ⟨c, _, rx.str.1, ry.str.1, ?_⟩
        have : decide (c ∈ (⟨w.toArray⟩ : Str).cps.toList) = w.contains c := by
          rw [List.contains_eq_mem]
        rw [this]
        exact q
      | [], e, _ => cases e
      | _ :: _ :: _, e, _ => cases e
    | _ => cases e
  | tup ds =>
    have e : (if eqOk a (.tup ds) then some (ds.any fun d => peq d a) else none) = some r := by
      cases a <;> exact e
    by_cases hq : eqOk a (.tup ds) = true
    · rw [if_pos hq] at e
      cases e
      unfold eqOk at hq
      simp only [Bool.and_eq_true, decide_eq_true_eq] at hq
      obtain ⟨⟨q1, q2⟩, q3⟩ := hq
      obtain ⟨p1, xs, rfl, h1, r1⟩ := ry.tup S
      exact .inr (key ds q2 q1 q3 rfl (.inr ((ry.rp S).dp q2)) (Rps.lay (r1.mono S) q2))
    · rw [if_neg hq] at e
      cases e
  | lst ds =>
    have e : (if eqOk a (.lst ds) then some (ds.any fun d => peq d a) else none) = some r := by
      cases a <;> exact e
    by_cases hq : eqOk a (.lst ds) = true
    · rw [if_pos hq] at e
      cases e
      unfold eqOk at hq
      simp only [Bool.and_eq_true, decide_eq_true_eq] at hq
      obtain ⟨⟨q1, q2⟩, q3⟩ := hq
      obtain ⟨p1, xs, rfl, h1, r1⟩ := ry.lst S
      exact .inr (key ds q2 q1 q3 rfl (.inl ((ry.rp S).dp q2)) (Rps.lay (r1.mono S) q2))
    · rw [if_neg hq] at e
      cases e
  | dic kvs => cases ry.rp S
  | _ => cases a <;> cases e
theorem opD_mem (hu : X.A.units + 65 < cLine) : OpD X FA (compareOp .In) (cmpS .mem) := by
  refine opD_cmp (op_in_sign.or (op_inA hu)) fun F H x y a b s Q S rx ry e => ?_
  obtain ⟨r, e2, rfl⟩ := cmpS_some e
  have e2 : memD a b = some r := e2
  exact ⟨_, rfl, fun q => in_rd (f := id) S rx ry e2 q⟩
theorem opD_nmem (hu : X.A.units + 65 < cLine) : OpD X FA (compareOp .NotIn) (cmpS .nmem) := by
  refine opD_cmp (op_notIn_sign.or (op_ninA hu)) fun F H x y a b s Q S rx ry e => ?_
  obtain ⟨r, e2, rfl⟩ := cmpS_some e
  have e2 : (memD a b).map (fun r => !r) = some r := e2
  obtain ⟨r', e', rfl⟩ := Option.map_eq_some_iff.mp e2
  exact ⟨_, rfl, fun q => in_rd (f := not) S rx ry e' q⟩
theorem ok_mem : cmpOk .In .mem := fun X FA h => opD_mem h
theorem ok_nmem : cmpOk .NotIn .nmem := fun X FA h => opD_nmem h
theorem opD_is : OpD X FA (compareOp .Is) (cmpS .is) := by
  refine opD_cmp op_isBl fun F H x y a b s Q S rx ry e => ?_
  obtain ⟨r, e, rfl⟩ := cmpS_some e
  cases a <;> cases b <;> first | (cases e; done) | skip
  cases e
  exact ⟨_, rfl, fun q => ⟨_, _, rx.bl, ry.bl, q⟩⟩
theorem opD_isnt : OpD X FA (compareOp .IsNot) (cmpS .isnt) := by
  refine opD_cmp op_notBl fun F H x y a b s Q S rx ry e => ?_
  obtain ⟨r, e, rfl⟩ := cmpS_some e
  cases a <;> cases b <;> first | (cases e; done) | skip
  cases e
  exact ⟨_, rfl, fun q => ⟨_, _, rx.bl, ry.bl, q⟩⟩
theorem ok_is : cmpOk .Is .is := fun X FA h => opD_is
theorem ok_isnt : cmpOk .IsNot .isnt := fun X FA h => opD_isnt
/-! ### max, min of two -/
def rTwo (f : Int → Int → Int) : List V → Hp → VK → Prop := fun xs H Q => ∃ i j, xs = [V.int i, V.int j] ∧ Q (.int (f i j)) H
theorem s_bi2 {C : CC} {pos p : Pos} {a b : Expr} {id : String} {bb : Bi2} {ca cb : P} {f : Int → Int → Int} (hr : ∀ X : Cx, X.calm = true → CallR X (.builtin id) (rTwo f)) (hD : ∀ x y s, bi2D bb x y = some s → ∃ i j, x = .int i ∧ y = .int j ∧ s = .v (.int (f i j)))
    (hb : bltB C id (.builtin id) = true) (ha : SP C a ca) (hb2 : SP C b cb) (hp : plainE a = true) (hp2 : plainE b = true) : SE C (.Call (.Name (Str.ofString id) p) [a, b] [] pos) (.bi2 bb ca cb) := fun X W Φ FA CA O => by
  obtain ⟨ta, a1, a2⟩ := ha X W Φ FA CA O
  obtain ⟨tb, b1, b2⟩ := hb2 X W Φ FA CA O
  obtain ⟨i1, i2, i3, i4, i5⟩ := bltB_of hb
  refine ⟨_, pe_callB (hr X O.calm) (glx O i1) (O.gi _ _ i2) i3 (pa_cons a1 (pa_cons b1 pa_nil (plain_star hp2 [] X.env)) (plain_star hp _ X.env)) i4 i5 (plain_star hp _ X.env) (by rw [plain_star hp2]; rfl), fun Z σ H ρ F Q S p => ?_⟩
  rw [evE] at p
  refine two a2 b2 (g := bi2D bb) (k := fun s H' ρ' F' => ∀ x, RX X.K FA Z σ ρ' F' H' x s → Q x H') S p fun H2 ρ2 F2 x y a b s S2 rx ry es k => ?_
  obtain ⟨i, j, rfl, rfl, rfl⟩ := hD a b s es
  exact ⟨i, j, by rw [rx.int, ry.int], k.here S2 _ (.v (.int _))⟩
theorem max2_ok : ∀ X : Cx, X.calm = true → CallR X (.builtin "max") (rTwo fun i j => if j > i then j else i) := fun X h => call_max2 h
theorem min2_ok : ∀ X : Cx, X.calm = true → CallR X (.builtin "min") (rTwo fun i j => if j < i then j else i) := fun X h => call_min2 h
theorem max2_D (x y : D) (s : Sl) (h : bi2D .max2 x y = some s) : ∃ i j, x = .int i ∧ y = .int j ∧ s = .v (.int (if j > i then j else i)) := by
  cases x <;> cases y <;> first | (cases h; done) | skip
  cases h
  exact ⟨_, _, rfl, rfl, rfl⟩
theorem min2_D (x y : D) (s : Sl) (h : bi2D .min2 x y = some s) : ∃ i j, x = .int i ∧ y = .int j ∧ s = .v (.int (if j < i then j else i)) := by
  cases x <;> cases y <;> first | (cases h; done) | skip
  cases h
  exact ⟨_, _, rfl, rfl, rfl⟩
/-! ### three values, bits, extend, pop -/
theorem s_bi3 {C : CC} {pos p : Pos} {a b c : Expr} {id : String} {bb : Bi2} {ca cb cc : P} {f : V → V → V → Option V} {g : Int → Int → Int → Int} (hr : ∀ X : Cx, X.calm = true → CallR X (.builtin id) (rNuC3 f)) (hf : ∀ i j k, f (.int i) (.int j) (.int k) = some (.int (g i j k)))
    (hD : ∀ x y z s, bi3D bb x y z = some s → ∃ i j k, x = .int i ∧ y = .int j ∧ z = .int k ∧ s = .v (.int (g i j k))) (hb : bltB C id (.builtin id) = true) (ha : SP C a ca) (hb2 : SP C b cb) (hc2 : SP C c cc) (hp : plainE a = true) (hp2 : plainE b = true) (hp3 : plainE c = true) :
    SE C (.Call (.Name (Str.ofString id) p) [a, b, c] [] pos) (.bi3 bb ca cb cc) := fun X W Φ FA CA O => by
  obtain ⟨ta, a1, a2⟩ := ha X W Φ FA CA O
  obtain ⟨tb, b1, b2⟩ := hb2 X W Φ FA CA O
  obtain ⟨tc, c1, c2⟩ := hc2 X W Φ FA CA O
  obtain ⟨i1, i2, i3, i4, i5⟩ := bltB_of hb
  refine ⟨_, pe_callB (hr X O.calm) (glx O i1) (O.gi _ _ i2) i3 (pa_cons a1 (pa_cons b1 (pa_cons c1 pa_nil (plain_star hp3 [] X.env)) (plain_star hp2 _ X.env)) (plain_star hp _ X.env)) i4 i5 (plain_star hp _ X.env) (by rw [plain_star hp2, plain_star hp3]; rfl), fun Z σ H ρ F Q S p => ?_⟩
  rw [evE] at p
  refine a2 Z σ H ρ F _ S (p.bind.imp fun q1 H1 ρ1 F1 e1 S1 k1 x1 r1 => ?_)
  refine b2 Z σ H1 ρ1 F1 _ S1 (k1.bind.imp fun q2 H2 ρ2 F2 e2 S2 k2 x2 r2 => ?_)
  refine c2 Z σ H2 ρ2 F2 _ S2 (k2.bind.imp fun q3 H3 ρ3 F3 e3 S3 k3 x3 r3 => ?_)
  obtain ⟨s, es, k4⟩ := k3.ofO
  obtain ⟨d1, h1, es⟩ := bind2 (g := fun x => (rs ρ3 q2).bind fun y => (rs ρ3 q3).bind fun z => bi3D bb x y z) es
  obtain ⟨d2, h2, es⟩ := bind2 (g := fun y => (rs ρ3 q3).bind fun z => bi3D bb d1 y z) es
  obtain ⟨d3, h3, es⟩ := bind2 (g := fun z => bi3D bb d1 d2 z) es
  obtain ⟨i, j, k, rfl, rfl, rfl, rfl⟩ := hD d1 d2 d3 s es
  have g1 := (((r1.mono e2.sub).mono e3.sub).rs S3 h1).int
  have g2 := ((r2.mono e3.sub).rs S3 h2).int
  have g3 := (r3.rs S3 h3).int
  exact ⟨_, _, _, _, rfl, by rw [g1, g2, g3]; exact hf i j k, k4.here S3 _ (.v (.int _))⟩
theorem max3_f (i j k : Int) : nuMax3 (.int i) (.int j) (.int k) = some (.int (if k > (if j > i then j else i) then k else (if j > i then j else i))) := by
  show (nuMax2 (.int i) (.int j)).bind _ = _
  have e : ∀ i j : Int, nuMax2 (.int i) (.int j) = some (.int (if j > i then j else i)) := fun i j => by
    show some (if decide (i < j) = true then V.int j else V.int i) = _
    by_cases h : i < j
    · rw [if_pos (by simpa using h), if_pos h]
    · rw [if_neg (by simpa using h), if_neg h]
  rw [e i j, Option.bind_some, e]
theorem min3_f (i j k : Int) : nuMin3 (.int i) (.int j) (.int k) = some (.int (if k < (if j < i then j else i) then k else (if j < i then j else i))) := by
  show (nuMin2 (.int i) (.int j)).bind _ = _
  have e : ∀ i j : Int, nuMin2 (.int i) (.int j) = some (.int (if j < i then j else i)) := fun i j => by
    show some (if decide (j < i) = true then V.int j else V.int i) = _
    by_cases h : j < i
    · rw [if_pos (by simpa using h), if_pos h]
    · rw [if_neg (by simpa using h), if_neg h]
  rw [e i j, Option.bind_some, e]
theorem max3_D (x y z : D) (s : Sl) (h : bi3D .max2 x y z = some s) : ∃ i j k, x = .int i ∧ y = .int j ∧ z = .int k ∧ s = .v (.int (if k > (if j > i then j else i) then k else (if j > i then j else i))) := by
  cases x <;> cases y <;> cases z <;> first | (cases h; done) | skip
  cases h
  exact ⟨_, _, _, rfl, rfl, rfl, rfl⟩
theorem min3_D (x y z : D) (s : Sl) (h : bi3D .min2 x y z = some s) : ∃ i j k, x = .int i ∧ y = .int j ∧ z = .int k ∧ s = .v (.int (if k < (if j < i then j else i) then k else (if j < i then j else i))) := by
  cases x <;> cases y <;> cases z <;> first | (cases h; done) | skip
  cases h
  exact ⟨_, _, _, rfl, rfl, rfl, rfl⟩
theorem s_bits {C : CC} {pos apos : Pos} {a : Expr} {ca : P} (ha : SP C a ca) (hb : ∀ env : PySem.Env, attributeBase a "bit_length" env (eval a env) = eval a env) (hl : (apos.endLine == pos.line) = true) : SE C (.Call (.Attribute a "bit_length" apos) [] [] pos) (.bi .bitlen ca) := fun X W Φ FA CA O => by
  obtain ⟨ta, a1, a2⟩ := ha X W Φ FA CA O
  refine ⟨_, pe_bits a1 (hb X.env) hl, fun Z σ H ρ F Q S p => ?_⟩
  rw [evE] at p
  refine one a2 (g := biD .bitlen) (k := fun s H' ρ' F' => ∀ x, RX X.K FA Z σ ρ' F' H' x s → Q x H') S p fun H2 ρ2 F2 x a s S2 rx es k => ?_
  cases a with
  | int i =>
    cases es
    exact ⟨i, rx.int, k.here S2 _ (.v (.int _))⟩
  | _ => cases es
theorem s_ext {C : CC} {pos apos : Pos} {a : Expr} {x : Str} {i : Nat} {c : E} {p : Pos} (h : visB C x i = true) (ha : SE C a c) (hp : plainE a = true) (hl : (apos.endLine == pos.line) = true) : SE C (.Call (.Attribute (.Name x p) "extend" apos) [a] [] pos) (.ext i c) := fun X W Φ FA CA O => by
  obtain ⟨ta, ha1, ha2⟩ := ha X W Φ FA CA O
  refine ⟨_, pe_bm PySem.F.plainAttrs_list PySem.F.slot_list_extend PySem.F.type_list_extend mt_extend (pe_v O h) (pa_cons ha1 pa_nil (plain_star hp [] X.env)) rfl (by rw [plain_star hp]; rfl) hl (plain_star hp [] X.env) rfl, fun Z σ H ρ F Q S p => ?_⟩
  rw [evE] at p
  cases g : gt ρ i with
  | none =>
    rw [g] at p
    exact p.elim
  | some s =>
    rw [g] at p
    obtain ⟨x, ex, r⟩ := S.slot i s (gt_some.mp g)
    cases s with
    | v d => exact p.elim
    | o d =>
      obtain ⟨a, xs, ds, rfl, rfl, n, h1, h2⟩ := own_lst r
      refine ⟨_, ex, .inl ⟨rfl, _, .inl (.inl h1)⟩, ?_⟩
      refine ha2.toV Z σ H ρ F _ S (p.bind.imp fun s H1 ρ1 F1 e1 S1 k1 x1 r1 => ?_)
      unfold extS at k1
      cases g1 : gt ρ1 i with
      | none =>
        rw [g1] at k1
        exact k1.elim
      | some s1 =>
        rw [g1] at k1
        have g1' := gt_some.mp g1
        obtain ⟨x', ex', r'⟩ := S1.slot i s1 g1'
        rw [ex] at ex'
        cases ex'
        cases s1 with
        | v d => exact k1.elim
        | o d1 =>
          obtain ⟨a', xs1, ds1, ea, rfl, n1, h3, h4⟩ := own_lst r'
          cases ea
          cases hd : s.d with
          | lst es =>
            rw [hd] at k1 r1
            cases r1 with
            | lst hb rb =>
              by_cases hz : ds1.length + es.length ≤ SZ
              · have k1 : Po X.K FA CA W Z σ H1 F1 (if ds1.length + es.length ≤ SZ then R.ok (Sl.v .non) (ρ1.set i (some (.o (.lst (ds1 ++ es))))) else .bad) _ := k1
                rw [if_pos hz] at k1
                obtain ⟨S2, E2⟩ := S1.put g1' ex h3 (h4.append rb)
                exact ⟨a, _, xs1, _, rfl, rfl, h3, S1.sub _ _ hb, by rw [h4.length, rb.length, ← SZ_eq]; exact hz, k1 _ _ E2 S2 _ (.v .non)⟩
              · have k1 : Po X.K FA CA W Z σ H1 F1 (if ds1.length + es.length ≤ SZ then R.ok (Sl.v .non) (ρ1.set i (some (.o (.lst (ds1 ++ es))))) else .bad) _ := k1
                rw [if_neg hz] at k1
                exact k1.elim
          | _ => rw [hd] at k1; exact k1.elim
theorem Rps.dropLast {K : PySem.W.Frag} {FA : Nat → Option Addr} {F : Hp} {xs : List V} {ds : List D} (r : Rps K FA F xs ds) : Rps K FA F xs.dropLast ds.dropLast := by
  rw [List.dropLast_eq_take, List.dropLast_eq_take, r.length]
  exact r.take _
theorem s_pop {C : CC} {pos apos : Pos} {x : Str} {i : Nat} {p : Pos} (h : visB C x i = true) (hl : (apos.endLine == pos.line) = true) : SE C (.Call (.Attribute (.Name x p) "pop" apos) [] [] pos) (.pop i) := fun X W Φ FA CA O => by
  refine ⟨_, pe_bm0 PySem.F.plainAttrs_list PySem.F.slot_list_pop PySem.F.type_list_pop mt_pop (pe_v O h) rfl hl, fun Z σ H ρ F Q S p => ?_⟩
  rw [evE] at p
  unfold popS at p
  cases g : gt ρ i with
  | none =>
    rw [g] at p
    exact p.elim
  | some s =>
    rw [g] at p
    obtain ⟨x, ex, r⟩ := S.slot i s (gt_some.mp g)
    cases s with
    | v d => exact p.elim
    | o d =>
      obtain ⟨a, xs, ds, rfl, rfl, n, h1, h2⟩ := own_lst r
      dsimp only at p
      cases hd : ds[ds.length - 1]? with
      | none =>
        rw [hd] at p
        exact p.elim
      | some d =>
        rw [hd] at p
        obtain ⟨v, hv, rv⟩ := h2.get hd
        obtain ⟨S2, E2⟩ := S.put (gt_some.mp g) ex h1 h2.dropLast
        refine ⟨_, ex, .inl ⟨rfl, _, .inl (.inl h1)⟩, a, xs, v, rfl, rfl, h1, by rw [h2.length]; exact hv, p _ F E2 S2 _ (.v rv)⟩
/-! ### x[i] += e -/
theorem get_list : PGet X (rIxL X.K) := by
  intro pins s σ H x y v u Q I rx ry h
  obtain ⟨p, xs, i, z, rfl, rfl, hq, he, q⟩ := h
  cases rx
  obtain ⟨t, rfl⟩ := ry
  obtain ⟨its, r, pl, hz⟩ := I.list hq
  obtain ⟨j, h1, h2, h3, h4, h5⟩ := atI_get he
  obtain ⟨w, ew, rw'⟩ := r.get h2
  have hl := r.length
  have hn := line63
  have fin : EP X pins σ Q w s := ⟨z, H, I, rw', q⟩
  by_cases h0 : 0 ≤ i
  · have hj : i.toNat = j := by
      rw [seqIndex_of h0 h5] at h1
      exact Option.some.inj h1
    exact wpAny_getItem_list pl.isList h0 (by omega) (by rw [hj]; simpa using ew) fin
  · have hj : (i + (its.toArray.size : Int)).toNat = j := by
      rw [seqIndex_neg (by omega) h4] at h1
      rw [List.size_toArray, ← hl]
      exact Option.some.inj h1
    exact wpAny_getItem_list_neg pl.isList (by omega) (by rw [List.size_toArray] <;> omega) (by omega) (by rw [hj]; simpa using ew) fin
theorem plain_aug {i : Expr} (h : plainIx i = true) (ov iv new : Value) : augStore i ov iv new = (do holding [new, ov, iv] (setItem ov iv new); release [new, ov, iv] []; pure .next) := by
  cases i <;> first | rfl | cases h
theorem st_aug {C : CC} {pos p ipos : Pos} {x : Str} {i : Nat} {k e : Expr} {ck ce : E} (hx : visB C x i = true) (hk : SE C k ck) (he : SE C e ce) (hs : plainIx k = true) :
    SS C (.AugAssign (.Subscript (.Name x p) k ipos) .Add e pos) (.aug i ck ce) := fun X W Φ FA CA O => by
  obtain ⟨tk, k1, k2⟩ := hk X W Φ FA CA O
  obtain ⟨te, e1, e2⟩ := he X W Φ FA CA O
  refine ⟨_, ps_augS (pe_v O hx) k1 get_list e1 ip_add set_list (plain_aug hs), fun Z σ H ρ F D S p => ?_⟩
  rw [evS] at p
  cases g0 : gt ρ i with
  | none =>
    rw [g0] at p
    exact p.elim
  | some s0 =>
  rw [g0] at p
  rw [if_pos (by rfl)] at p
  obtain ⟨v, hv, _⟩ := S.slot i _ (gt_some.mp g0)
  refine ⟨v, hv, ?_⟩
  refine k2.toV Z σ H ρ F _ S (p.stm.imp fun s1 H1 ρ1 F1 x1 S1 p1 y1 r1 => ?_)
  obtain ⟨a, ha, p2⟩ := p1.stm.ofO
  obtain ⟨dl, hl, hr⟩ := bind2 ha
  have rq := (show RO X.K FA σ F1 (.inl i) v from hv).rs S1 hl
  have p2 := p2.here S1
  cases dl with
  | lst ds =>
    cases hk : s1.d with
    | int q =>
      rw [hk] at hr r1
      cases r1
      have hr : (Rf.atI ds q).bind intO = some a := hr
      obtain ⟨d1, hd1, hd2⟩ := Option.bind_eq_some_iff.mp hr
      have ed : d1 = .int a := by
        cases d1 <;> cases hd2
        rfl
      subst ed
      obtain ⟨b1, xs, rfl, h1, r3⟩ := rq.lst S1.sub
      obtain ⟨w, hw, rw'⟩ := atI_rel r3 hd1
      cases rw'
      refine ⟨b1, xs, q, .int a, rfl, rfl, .inl (.inl h1), hw, ?_⟩
      refine e2.toV Z σ H1 ρ1 F1 _ S1 (p2.stm.imp fun s2 H2 ρ2 F2 x2 S2 k3 y2 r2 => ?_)
      rw [hk] at k3
      cases hb : s2.d with
      | int b =>
        rw [hb] at r2 k3
        cases r2
        refine ⟨a, b, rfl, rfl, ?_⟩
        have k3 : PoS X.K FA CA W C.fx Z σ H2 F2 (ofOE (stxS i (.int q) (.int (a + b)) ρ2)) D := k3
        unfold stxS at k3
        cases g : gt ρ2 i with
        | none =>
          rw [g] at k3
          exact k3.elim
        | some sl =>
          rw [g] at k3
          cases sl with
          | v d => exact k3.elim
          | o d =>
            obtain ⟨xx, exx, rr⟩ := S2.slot i _ (gt_some.mp g)
            rw [hv] at exx
            cases exx
            obtain ⟨a', xs', ds', ea, rfl, n, h3, h4⟩ := own_lst rr
            cases ea
            dsimp only at k3
            cases hj : Rf.ixN ds'.length q with
            | none =>
              rw [hj] at k3
              exact k3.elim
            | some j =>
              rw [hj] at k3
              obtain ⟨S3, E3⟩ := S2.put (gt_some.mp g) hv h3 (h4.set j (.int (a + b)))
              exact ⟨b1, xs', q, j, rfl, rfl, h3, by rw [h4.length]; exact hj, k3 σ _ F2 E3 S3 .refl⟩
      | _ => rw [hb] at k3; exact k3.elim
    | _ => rw [hk] at hr; cases hr
  | _ => cases hr
/-! ### tests: a if t else b, a < b < c -/
theorem pt_ifExp {X : Cx} {c a b : Expr} {pos : Pos} {tA tb tc : TT} (hc : PT X c tA) (ha : PT X a tb) (hb : PT X b tc) : PT X (.IfExp c a b pos) (fun σ H Q => tA σ H fun k H1 => if k = true then tb σ H1 Q else tc σ H1 Q) := by
  refine ⟨fun pins s σ H Q I h => ?_⟩
  refine PyProof.Rows.isTrue_IfExp (thn (hc.run pins s σ H _ I h) fun d s1 ⟨H1, I1, q1⟩ => ?_)
  cases d with
  | true => exact ha.run pins s1 σ H1 Q I1 q1
  | false => exact hb.run pins s1 σ H1 Q I1 q1
theorem t_ite {C : CC} {t a b : Expr} {pos : Pos} {ct ca cb : T} (ht : ST C t ct) (ha : ST C a ca) (hb : ST C b cb) : ST C (.IfExp t a b pos) (.ite ct ca cb) := fun X W Φ FA CA O => by
  obtain ⟨tt, t1, t2⟩ := ht X W Φ FA CA O
  obtain ⟨ta, a1, a2⟩ := ha X W Φ FA CA O
  obtain ⟨tb, b1, b2⟩ := hb X W Φ FA CA O
  refine ⟨_, pt_ifExp t1 a1 b1, fun Z σ H ρ F Q S p => ?_⟩
  rw [evT] at p
  refine t2 Z σ H ρ F _ S (p.bind.imp fun k H1 ρ1 F1 e1 S1 q => ?_)
  cases k with
  | true => exact a2 Z σ H1 ρ1 F1 Q S1 q
  | false => exact b2 Z σ H1 ρ1 F1 Q S1 q
theorem RQ.mono2 {K : PySem.W.Frag} {FA : Nat → Option Addr} {q : Nat ⊕ D} {σ : St} {F F1 : Hp} {x : V} (r : RO K FA σ F q x) (s : Sub F F1) : RO K FA σ F1 q x := r.mono s
theorem chain_rd {C : CC} {X : Cx} {W : WX} {Φ : PhiT} {FA CA : Nat → Option Addr} {op op' : CmpOp} {cop cop' : Cop} {r r' : R2} {ta tb tc : TE} {pa pb pc : P}
    (hq : ∀ (Z : Addr → Prop) (σ : St) (H : Hp) (ρ : Env) (F : Hp) (x y : V) (a b : D) (s : Sl) (Q : VK), SR X.K FA Z σ H ρ F → RQ X.K FA F H x a → RQ X.K FA F H y b → cmpS cop a b = some s → (∀ v H' F', Ext Z F H F' H' → SR X.K FA Z σ H' ρ F' → RX X.K FA Z σ ρ F' H' v s → Q v H') → r x y H Q)
    (hq' : ∀ (Z : Addr → Prop) (σ : St) (H : Hp) (ρ : Env) (F : Hp) (x y : V) (a b : D) (s : Sl) (Q : VK), SR X.K FA Z σ H ρ F → RQ X.K FA F H x a → RQ X.K FA F H y b → cmpS cop' a b = some s → (∀ v H' F', Ext Z F H F' H' → SR X.K FA Z σ H' ρ F' → RX X.K FA Z σ ρ F' H' v s → Q v H') → r' x y H Q)
    (a2 : RdP X.K FA CA W ta (evP Φ pa)) (b2 : RdP X.K FA CA W tb (evP Φ pb)) (c2 : RdP X.K FA CA W tc (evP Φ pc)) (Z : Addr → Prop) (σ : St) (H : Hp) (ρ : Env) (F : Hp) (Q : VK) (S : SR X.K FA Z σ H ρ F)
    (p : Po X.K FA CA W Z σ H F (evT Φ (.chain cop cop' pa pb pc) ρ) fun b H' _ _ => Q (.bl b) H') : tChain r r' ta tb tc σ H Q := by
  rw [evT] at p
  refine a2 Z σ H ρ F _ S (p.bind.imp fun q1 H1 ρ1 F1 e1 S1 k1 x1 r1 => ?_)
  refine b2 Z σ H1 ρ1 F1 _ S1 (k1.bind.imp fun q2 H2 ρ2 F2 e2 S2 k2 x2 r2 => ?_)
  obtain ⟨kb, es, k3⟩ := k2.bind.ofO
  obtain ⟨d1, d2, h1, h2, h3⟩ := bind3 es
  refine hq Z σ H2 ρ2 F2 x1 x2 d1 d2 (.v (.bl kb)) _ S2 ((r1.mono e2.sub).rs S2 h1) (r2.rs S2 h2) (by unfold cmpS; rw [h3]; rfl) fun v H' F' e' S' R' => ?_
  have hv : v = .bl kb := by
    have q : Rp X.K FA F' v (.bl kb) := R'.1
    cases q
    rfl
  subst hv
  refine ⟨kb, rfl, ?_⟩
  have k4 := k3 H' F' e' S'
  cases kb with
  | false =>
    rw [if_neg Bool.false_ne_true]
    rw [if_neg Bool.false_ne_true] at k4
    exact k4.here S'
  | true =>
    rw [if_pos rfl]
    rw [if_pos rfl] at k4
    refine c2 Z σ H' ρ2 F' _ S' (k4.bind.imp fun q3 H3 ρ3 F3 e3 S3 k5 x3 r3 => ?_)
    obtain ⟨kb2, es2, k6⟩ := k5.ofO
    obtain ⟨d3, d4, h4, h5, h6⟩ := bind3 es2
    refine hq' Z σ H3 ρ3 F3 x2 x3 d3 d4 (.v (.bl kb2)) _ S3 (((r2.mono e'.sub).mono e3.sub).rs S3 h4) (r3.rs S3 h5) (by unfold cmpS; rw [h6]; rfl) fun v H4 F4 e4 S4 R4 => ?_
    have hv : v = .bl kb2 := by
      have q : Rp X.K FA F4 v (.bl kb2) := R4.1
      cases q
      rfl
    subst hv
    exact k6 H4 F4 e4 S4
theorem plain_last {op op' : CmpOp} {b c : Expr} (h : plainE c = true) : lastMarks [op, op'] [b, c] = false := plain_beh h op'
theorem s_chain {C : CC} {a b c : Expr} {pos : Pos} {op op' : CmpOp} {cop cop' : Cop} {pa pb pc : P} (ho : cmpOk op cop) (ho' : cmpOk op' cop') (ha : SP C a pa) (hb : SP C b pb) (hc : SP C c pc) (hp : plainE c = true) : SE C (.Compare a [op, op'] [b, c] pos) (.tst (.chain cop cop' pa pb pc)) := fun X W Φ FA CA O => by
  obtain ⟨ta, a1, a2⟩ := ha X W Φ FA CA O
  obtain ⟨tb, b1, b2⟩ := hb X W Φ FA CA O
  obtain ⟨tc, c1, c2⟩ := hc X W Φ FA CA O
  obtain ⟨r, hr, hq⟩ := ho X FA O.units
  obtain ⟨r', hr', hq'⟩ := ho' X FA O.units
  refine ⟨_, pe_chain hr hr' a1 b1 c1 (plain_last hp), fun Z σ H ρ F Q S p => ?_⟩
  rw [evE] at p
  exact chain_rd (op := op) (op' := op') (C := C) hq hq' a2 b2 c2 Z σ H ρ F Q S (p.bind.imp fun b H' ρ' F' e' S' k => k.here S' _ (.v (.bl b)))
theorem t_chain {C : CC} {a b c : Expr} {pos : Pos} {op op' : CmpOp} {cop cop' : Cop} {pa pb pc : P} (ho : cmpOk op cop) (ho' : cmpOk op' cop') (ha : SP C a pa) (hb : SP C b pb) (hc : SP C c pc) (hp : plainE c = true) : ST C (.Compare a [op, op'] [b, c] pos) (.chain cop cop' pa pb pc) := fun X W Φ FA CA O => by
  obtain ⟨ta, a1, a2⟩ := ha X W Φ FA CA O
  obtain ⟨tb, b1, b2⟩ := hb X W Φ FA CA O
  obtain ⟨tc, c1, c2⟩ := hc X W Φ FA CA O
  obtain ⟨r, hr, hq⟩ := ho X FA O.units
  obtain ⟨r', hr', hq'⟩ := ho' X FA O.units
  refine ⟨_, pt_chain hr hr' a1 b1 c1 (plain_last hp), fun Z σ H ρ F Q S p => ?_⟩
  exact chain_rd (op := op) (op' := op') (C := C) hq hq' a2 b2 c2 Z σ H ρ F _ S (p.imp fun b H' ρ' F' e' S' k => ⟨b, rfl, k⟩)
/-! ### keywords -/
theorem evA_app (Φ : PhiT) : ∀ (a b : A) (ρ : Env), evA Φ (a.app b) ρ = (evA Φ a ρ).bind fun xs ρ => (evA Φ b ρ).bind fun ys ρ => .ok (xs ++ ys) ρ
  | .nil, b, ρ => by
    rw [A.app, evA, R.bind_ok]
    cases evA Φ b ρ <;> rfl
  | .ref i a, b, ρ => by
    rw [A.app, evA, evA]
    split
    · rw [evA_app Φ a b ρ]
      cases evA Φ a ρ with
      | ok xs ρ1 => 
        show ((evA Φ b ρ1).bind _).bind _ = (evA Φ b ρ1).bind _
        cases evA Φ b ρ1 <;> rfl
      | ex x ρ1 => rfl
      | bad => rfl
    · rfl
  | .val e a, b, ρ => by
    rw [A.app, evA, evA]
    cases evE Φ e ρ with
    | ok s ρ0 =>
      show (evA Φ (a.app b) ρ0).bind _ = ((evA Φ a ρ0).bind _).bind _
      rw [evA_app Φ a b ρ0]
      cases evA Φ a ρ0 with
      | ok xs ρ1 =>
        show ((evA Φ b ρ1).bind _).bind _ = (evA Φ b ρ1).bind _
        cases evA Φ b ρ1 <;> rfl
      | ex x ρ1 => rfl
      | bad => rfl
    | ex x ρ1 => rfl
    | bad => rfl
def SK (C : CC) (kws : List Keyword) (c : A) : Prop := ∀ X W Φ FA CA, Ok C X W Φ FA CA → ∃ t, PK X kws t ∧ RdA X.K FA CA W t (evA Φ c)
theorem k_nil {C : CC} : SK C [] .nil := fun X W Φ FA CA O => ⟨_, pk_nil, fun Z σ H ρ F Q S p => by
  rw [evA] at p
  exact p.here S [] .nil⟩
theorem k_val {C : CC} {kws : List Keyword} {nm : Option Str} {a : Expr} {kp : Pos} {c : E} {cs : A} (ha : SE C a c) (hs : SK C kws cs) : SK C (⟨nm, a, kp⟩ :: kws) (.val c cs) := fun X W Φ FA CA O => by
  obtain ⟨ta, ha1, ha2⟩ := ha X W Φ FA CA O
  obtain ⟨tb, hb1, hb2⟩ := hs X W Φ FA CA O
  refine ⟨_, pk_cons ha1 hb1, fun Z σ H ρ F Q S p => ?_⟩
  rw [evA] at p
  refine ha2.toV Z σ H ρ F _ S (p.bind.imp fun s H1 ρ1 F1 e1 S1 k1 x1 r1 => ?_)
  refine hb2 Z σ H1 ρ1 F1 _ S1 (k1.bind.imp fun ds H2 ρ2 F2 e2 S2 k2 xs r2 => ?_)
  exact k2.here S2 _ (.cons (r1.mono e2.sub) r2)
theorem k_ref {C : CC} {kws : List Keyword} {nm : Option Str} {x : Str} {i : Nat} {p kp : Pos} {cs : A} (h : visB C x i = true) (hs : SK C kws cs) : SK C (⟨nm, .Name x p, kp⟩ :: kws) (.ref i cs) := fun X W Φ FA CA O => by
  obtain ⟨tb, hb1, hb2⟩ := hs X W Φ FA CA O
  refine ⟨_, pk_cons (pe_v O h) hb1, fun Z σ H ρ F Q S p => ?_⟩
  rw [evA] at p
  cases g : gt ρ i with
  | none =>
    rw [g] at p
    exact p.elim
  | some s =>
    rw [g] at p
    simp only [Option.isSome_some, if_true] at p
    obtain ⟨x, ex, r⟩ := S.slot i s (gt_some.mp g)
    refine ⟨x, ex, ?_⟩
    refine hb2 Z σ H ρ F _ S (p.bind.imp fun ds H2 ρ2 F2 e2 S2 k2 xs r2 => ?_)
    exact k2.here S2 _ (.cons ex r2)
theorem run_fnSK {X : Cx} {CX : CXT} {k n : Nat} {f : Addr} {fd : FuncData} {ps : List Str} {sp : Sp} {E : St → XK} {σ : St} {pins : List (Addr × Obj)} {H : Hp} {s : Shared} {Q : VK} {us ws : List Value} {vs zs : List V} (F : FnOk X.prog X.w X.K X.mg X.base CX k f fd ps sp) (hr : Room k X.A) (hb : KBok X.K fd ps n) (hx : PassesAt CX X σ (E σ))
    (I : Inv X pins σ H s) (r : Vals vs us) (rz : Vals zs ws) (l1 : vs.length = n) (l2 : n + zs.length = ps.length) (h : sp (vs ++ zs) H Q (E σ)) : wpAny (model X.prog X.w) X.A (call (.ref f) us ((ps.drop n).zip ws)) (EP X pins σ Q) X.xe s := by
  refine wpAny_call (codeAny_mono (F.run X.A X.stack s H ⟨us, (ps.drop n).zip ws⟩ (us ++ ws) (vs ++ zs) Q (E σ) hr I.env0 (hb s us ws I.kIn (r.length.symm.trans l1) (by rw [← rz.length]; exact l2)) (r.append rz) h) fun r s' hq => ?_)
  cases r with
  | error e => exact hx pins H s e s' I hq
  | ok fl =>
    cases fl with
    | ret u => exact I.after hq
    | next => exact False.elim hq
    | brk => exact False.elim hq
    | cont => exact False.elim hq
def tCallSK (n m : Nat) (sp : Sp) (E : St → XK) (t tk : TA) : TE := fun σ H Q => t σ H fun vs H1 => tk σ H1 fun zs H2 => vs.length = n ∧ n + zs.length = m ∧ sp (vs ++ zs) H2 Q (E σ)
theorem pe_callSK {X : Cx} {CX : CXT} {k n : Nat} {f : Addr} {fd : FuncData} {ps : List Str} {sp : Sp} {E : St → XK} {x : Str} {p pos : Pos} {e : Expr} {es : List Expr} {kws : List Keyword} {t tk : TA} (F : FnOk X.prog X.w X.K X.mg X.base CX k f fd ps sp) (hr : Room k X.A) (hg : Gl X x) (hm : X.mg x = some (.ref f)) (hk : PySem.W.keepIn X.K (.ref f) = true) (hb : KBok X.K fd ps n) (hx : ∀ σ, PassesAt CX X σ (E σ))
    (ha : PA X (e :: es) t) (hkw : PK X kws tk) (hall : (backToKw pos (keywordEach kws X.env)).all (·.1.isSome) = true) (hks : (backToKw pos (keywordEach kws X.env)).filterMap (·.1) = ps.drop n)
    (hdb : (x == ("__debug__" : Str)) = false) (he : starEach (e :: es) X.env = (false, eval e X.env) :: starEach es X.env)
    (hpl : ((backTo pos (starEach (e :: es) X.env)).any (·.1) || (backToKw pos (keywordEach kws X.env)).any (·.1.isNone)) = false) :
    PE X (.Call (.Name x p) (e :: es) kws pos) (tCallSK n ps.length sp E t tk) := by
  refine ⟨fun pins s σ H Q I h => ?_⟩
  refine wpAny_Call_Name_kw (ld_glob I hg hm ?_ hdb)
  refine PySem.W.callWith_KW (h₀ := X.base) I.ok.mod.kin hk hall (thn (ha.run pos pins s σ H _ I h) fun us s1 ⟨vs, H1, I1, r, q⟩ => ?_) hpl he
  refine thn (hkw.run pos pins s1 σ H1 _ I1 q) fun ws s2 ⟨zs, H2, I2, rz, l1, l2, q2⟩ => ⟨I2.kIn, ?_⟩
  rw [hks]
  exact run_fnSK F hr hb (hx σ) I2 r rz l1 l2 q2
theorem pe_callSK0 {X : Cx} {CX : CXT} {k : Nat} {f : Addr} {fd : FuncData} {ps : List Str} {sp : Sp} {E : St → XK} {x : Str} {p pos : Pos} {kws : List Keyword} {tk : TA} (F : FnOk X.prog X.w X.K X.mg X.base CX k f fd ps sp) (hr : Room k X.A) (hg : Gl X x) (hm : X.mg x = some (.ref f)) (hk : PySem.W.keepIn X.K (.ref f) = true) (hb : KBok X.K fd ps 0) (hx : ∀ σ, PassesAt CX X σ (E σ))
    (hkw : PK X kws tk) (hall : (backToKw pos (keywordEach kws X.env)).all (·.1.isSome) = true) (hks : (backToKw pos (keywordEach kws X.env)).filterMap (·.1) = ps.drop 0)
    (hdb : (x == ("__debug__" : Str)) = false) (hpl : ((backTo pos (starEach [] X.env)).any (·.1) || (backToKw pos (keywordEach kws X.env)).any (·.1.isNone)) = false) :
    PE X (.Call (.Name x p) [] kws pos) (tCallSK 0 ps.length sp E tNil tk) := by
  refine ⟨fun pins s σ H Q I h => ?_⟩
  refine wpAny_Call_Name_kw (ld_glob I hg hm ?_ hdb)
  refine PySem.W.callWith_KW0 (h₀ := X.base) I.ok.mod.kin hk hall ?_ hpl
  refine thn (hkw.run pos pins s σ H _ I h) fun ws s2 ⟨zs, H2, I2, rz, l1, l2, q2⟩ => ⟨I2.kIn, ?_⟩
  rw [hks]
  exact run_fnSK F hr hb (hx σ) I2 .nil rz l1 l2 q2
def A.len : A → Nat
  | .nil => 0
  | .ref _ a => a.len + 1
  | .val _ a => a.len + 1
theorem evA_len (Φ : PhiT) : ∀ (a : A) (ρ ρ' : Env) (xs : List (Nat ⊕ D)), evA Φ a ρ = .ok xs ρ' → xs.length = a.len
  | .nil, ρ, ρ', xs, h => by
    rw [evA] at h
    cases h
    rfl
  | .ref i a, ρ, ρ', xs, h => by
    rw [evA] at h
    split at h
    · cases q : evA Φ a ρ with
      | ok ys ρ1 =>
        rw [q] at h
        cases h
        exact congrArg (· + 1) (evA_len Φ a ρ _ ys q)
      | ex x ρ1 => rw [q] at h; cases h
      | bad => rw [q] at h; cases h
    · cases h
  | .val e a, ρ, ρ', xs, h => by
    rw [evA] at h
    cases q0 : evE Φ e ρ with
    | ok s ρ0 =>
      rw [q0, R.bind_ok] at h
      cases q : evA Φ a ρ0 with
      | ok ys ρ1 =>
        rw [q] at h
        cases h
        exact congrArg (· + 1) (evA_len Φ a ρ0 _ ys q)
      | ex x ρ1 => rw [q] at h; cases h
      | bad => rw [q] at h; cases h
    | ex x ρ1 => rw [q0] at h; cases h
    | bad => rw [q0] at h; cases h
theorem Po.and {K : PySem.W.Frag} {FA CA : Nat → Option Addr} {W : WX} {Z : Addr → Prop} {σ : St} {H F : Hp} {α : Type} {r : R α} {k : α → Hp → Env → Hp → Prop} {P : α → Prop} (h : ∀ a ρ', r = .ok a ρ' → P a) (p : Po K FA CA W Z σ H F r k) : Po K FA CA W Z σ H F r fun a H ρ F => P a ∧ k a H ρ F := by
  cases r with
  | ok a ρ' => exact fun H' F' e S => ⟨h a ρ' rfl, p H' F' e S⟩
  | ex x ρ' => exact p
  | bad => exact p
theorem ROs.len {K : PySem.W.Frag} {FA : Nat → Option Addr} {σ : St} {F : Hp} {qs : List (Nat ⊕ D)} {xs : List V} (h : ROs K FA σ F qs xs) : xs.length = qs.length := by
  induction h with
  | nil => rfl
  | cons _ _ ih => exact congrArg (· + 1) ih
theorem ROs.append {K : PySem.W.Frag} {FA : Nat → Option Addr} {σ : St} {F : Hp} {qs qs' : List (Nat ⊕ D)} {xs xs' : List V} (h : ROs K FA σ F qs xs) (h' : ROs K FA σ F qs' xs') : ROs K FA σ F (qs ++ qs') (xs ++ xs') := by
  induction h with
  | nil => exact h'
  | cons r _ ih => exact .cons r ih
theorem callK_rd {X : Cx} {W : WX} {Φ : PhiT} {FA CA : Nat → Option Addr} {f n m : Nat} {t tk : TA} {cs ck : A} (a2 : RdA X.K FA CA W t (evA Φ cs)) (k2 : RdA X.K FA CA W tk (evA Φ ck)) (l1 : cs.len = n) (l2 : n + ck.len = m) :
    RdE X.K FA CA W (tCallSK n m (spF X.K FA CA Φ f m) (fun σ c d H' => W c d σ H') t tk) (evE Φ (.call f (cs.app ck) [])) := fun Z σ H ρ F Q S p => by
  rw [evE, evA_app] at p
  refine a2 Z σ H ρ F _ S ((p.bind.bind.and fun a ρ' h => evA_len Φ cs ρ ρ' a h).imp fun qs H1 ρ1 F1 e1 S1 ⟨n1, k1⟩ xs r1 => ?_)
  refine k2 Z σ H1 ρ1 F1 _ S1 ((k1.bind.and fun a ρ' h => evA_len Φ ck ρ1 ρ' a h).imp fun qs2 H2 ρ2 F2 e2 S2 ⟨n2, k3⟩ xs2 r2 => ?_)
  refine ⟨r1.len.trans (n1.trans l1), by rw [r2.len, n2]; exact l2, ?_⟩
  have k4 := k3.here S2
  rw [List.map_nil, List.append_nil] at k4
  have q := call_sp S2 ((r1.mono e2.sub).append r2) k4
  have el : (xs ++ xs2).length = m := by
    rw [List.length_append, r1.len, r2.len, n1, n2, l1]
    exact l2
  rw [el] at q
  exact q
theorem s_callK {C : CC} {x : Str} {f n : Nat} {ps : List Str} {dfl : List Int} {ks : List Nat} {p pos : Pos} {a : Expr} {es : List Expr} {kws : List Keyword} {cs ck : A} (hk : kindIs C.sc x .globalImplicit = true) (hg : C.gi x = some (.fn f ps dfl ks)) (hdb : (x == ("__debug__" : Str)) = false) (hn : n ∈ ks) (ha : SA C (a :: es) cs) (hkw : SK C kws ck)
    (l1 : cs.len = n) (l2 : n + ck.len = ps.length) (hp : plainE a = true) (hall : ∀ env, (backToKw pos (keywordEach kws env)).all (·.1.isSome) = true) (hks : ∀ env, (backToKw pos (keywordEach kws env)).filterMap (·.1) = ps.drop n)
    (hpl : ∀ env, ((backTo pos (starEach (a :: es) env)).any (·.1) || (backToKw pos (keywordEach kws env)).any (·.1.isNone)) = false) : SE C (.Call (.Name x p) (a :: es) kws pos) (.call f (cs.app ck) []) := fun X W Φ FA CA O => by
  obtain ⟨ta, ha1, ha2⟩ := ha X W Φ FA CA O
  obtain ⟨tk, hk1, hk2⟩ := hkw X W Φ FA CA O
  obtain ⟨k, fa, fd, hr, hm, hkp, hfa, hF, hbad, hb⟩ := O.gi x _ hg
  exact ⟨_, pe_callSK hF hr (glx O hk) hm hkp ((hb 0 (Nat.zero_le _)).2 n hn) (fun σ => passAt O.tk σ) ha1 hk1 (hall X.env) (hks X.env) hdb (plain_star hp es X.env) (hpl X.env), callK_rd ha2 hk2 l1 l2⟩
theorem s_callK0 {C : CC} {x : Str} {f : Nat} {ps : List Str} {dfl : List Int} {ks : List Nat} {p pos : Pos} {kws : List Keyword} {ck : A} (hk : kindIs C.sc x .globalImplicit = true) (hg : C.gi x = some (.fn f ps dfl ks)) (hdb : (x == ("__debug__" : Str)) = false) (hn : 0 ∈ ks) (hkw : SK C kws ck)
    (l2 : 0 + ck.len = ps.length) (hall : ∀ env, (backToKw pos (keywordEach kws env)).all (·.1.isSome) = true) (hks : ∀ env, (backToKw pos (keywordEach kws env)).filterMap (·.1) = ps.drop 0)
    (hpl : ∀ env, ((backTo pos (starEach [] env)).any (·.1) || (backToKw pos (keywordEach kws env)).any (·.1.isNone)) = false) : SE C (.Call (.Name x p) [] kws pos) (.call f ck []) := fun X W Φ FA CA O => by
  obtain ⟨tk, hk1, hk2⟩ := hkw X W Φ FA CA O
  obtain ⟨k, fa, fd, hr, hm, hkp, hfa, hF, hbad, hb⟩ := O.gi x _ hg
  obtain ⟨tn, hn1, hn2⟩ := (a_nil (C := C)) X W Φ FA CA O
  exact ⟨_, pe_callSK0 hF hr (glx O hk) hm hkp ((hb 0 (Nat.zero_le _)).2 0 hn) (fun σ => passAt O.tk σ) hk1 (hall X.env) (hks X.env) hdb (hpl X.env), callK_rd (cs := .nil) (fun Z σ H ρ F Q S p => by
    rw [evA] at p
    exact p.here S [] .nil) hk2 rfl l2⟩
end
end
end Rf

set_option maxHeartbeats 2000000
/-! Rf9t: try with several named except clauses. (The walk follows the house's two try rules, turned to named clauses.) -/
namespace Rf
open PySem PySem.Spec L2 PyProof.Rows
/-- what the clauses wish, each with a name -/
def wNm (K : PySem.W.Frag) (Wout : WX) (D : Ends) : List (Value × Nat × (Addr → Value → Option Addr → TS)) → WX
  | [] => Wout
  | (c, i, ts) :: r => fun cls d σ H => ∃ b, PySem.W.exmOne K cls c = some b ∧
      (b = true → ∀ a, H a = none → ts a cls d { nx := fun σ' H' => D.nx (σ'.set i none) H', rt := D.rt, bk := fun σ' H' => D.bk (σ'.set i none) H', ct := fun σ' H' => D.ct (σ'.set i none) H' } (σ.set i (some (.ref a))) H) ∧
      (b = false → wNm K Wout D r cls d σ H)
inductive HdsNm (X : Cx) : List ExceptHandler → List (Value × Nat × (Addr → Value → Option Addr → TS)) → Prop
  | nil : HdsNm X [] []
  | cons {x n : Str} {i : Nat} {c : Value} {ts : Addr → Value → Option Addr → TS} {b₀ : Stmt} {suite : List Stmt} {np pos' : Pos} {hds : List ExceptHandler} {l : List (Value × Nat × (Addr → Value → Option Addr → TS))} (hc : Names X x c) (hi : X.N[i]? = some n) (hln : X.env.kindOf n = some .local)
      (hsu : ∀ (a : Addr) (oe : Obj) (cls : Value) (d : Option Addr) (pn : List (Addr × Obj)), Zc cls d oe → (∃ vs, oe.data = .fields vs) → PSs (X.suite a ((a, oe) :: pn)) (b₀ :: suite) (ts a cls d)) (r : HdsNm X hds l) :
      HdsNm X (.ExceptHandler (some (.Name x np)) (some n) (b₀ :: suite) pos' :: hds) ((c, i, ts) :: l)
section
variable {X : Cx} {body : List Stmt} {h₀ : ExceptHandler} {hds : List ExceptHandler} {l : List (Value × Nat × (Addr → Value → Option Addr → TS))} {pos : Pos} {tb : WX → TS} {Wout : WX}
theorem ps_try_nm (hs : X.stack = X.env :: X.outer) (hf : X.env.frame = some X.env.locals) (hN : X.N.Nodup) (tk : Takes X Wout)
    (hb : ∀ (W : WX) (pn : List (Addr × Obj)) (xe : Value → Shared → Prop), Takes (X.tr pn xe) W → PassesOwn (model X.prog X.w) X.A X.env xe → PSs (X.tr pn xe) body (tb W))
    (hh : HdsNm X (h₀ :: hds) l) : PS X (.Try body (h₀ :: hds) [] [] pos) (fun D σ H => tb (wNm X.K Wout D l) D σ H) := by
  refine ⟨fun pins s σ H D I h => ?_⟩
  have ok := I.ok
  have hfr : X.A.frames = some (X.env :: X.outer) := by rw [ok.frames, hs]
  refine wpAny_Try_except ?_
  refine wpAny_mono ((hb (wNm X.K Wout D l) (X.pn ++ pins) (fun e s₁ => wpAny (model X.prog X.w) X.A (noteFrame e X.env) (fun _ s₂ => wpAny (model X.prog X.w) X.A (setFlight e none) (fun _ s₃ =>
    wpAny (model X.prog X.w) X.A (handleBy e X.env (h₀ :: hds)) (L2.SP X pins D) X.xe s₃) X.xe s₂) X.xe s₁) (fun u s' xx => ?_) PassesOwn.looking).run [] s σ H D (I.toTry _) h) (fun f s1 hsp => ?_) (fun e s1 he => he)
  · -- the catch
    obtain ⟨a, B, sI, pins', σ', H', cls, d, rfl, J', nb, up, sky, na, os, ag, w⟩ := xx
    have J : Inv X pins σ' H' sI := J'.ofTry ok
    have sky' : Sky B (X.env :: X.outer) a (Zc cls d) X.env.locals s'.heap := by rw [← hs]; exact sky
    show wpAny (model X.prog X.w) X.A (noteFrame (.ref a) X.env) _ _ _
    refine Sky.land Zc.steady hfr hf sky' fun h3 fl3 up3 => ?_
    have J3 : Inv X pins σ' H' { s' with heap := h3 } := J.landed nb fl3.1 (up.trans up3) os ag
    obtain ⟨oe3, vs3, he3, hz3, hd3⟩ := fl3.there
    have notFr : ∀ {h : Heap} {o : Obj} {vs : Array Value}, h.FunFrames B (X.env :: X.outer) → h.get? a = some o → o.data = .fields vs → a ∉ frs (X.env :: X.outer) := fun {h o vs} ff e dd hm => by
      obtain ⟨_, o', e', hnf⟩ := ff.mem hm
      rw [e] at e'; cases e'
      exact hnf _ dd
    have nfr := notFr fl3.2.2.1 he3 hd3
    have nL : a ≠ X.env.locals := fun z => nfr (List.mem_filterMap.mpr ⟨X.env, List.mem_cons_self, by rw [hf, z]⟩)
    have nF : a ∉ X.fs := fun hm => by
      obtain ⟨e, he, q⟩ := List.mem_filterMap.mp hm
      exact nfr (List.mem_filterMap.mpr ⟨e, List.mem_cons_of_mem _ he, q⟩)
    have S3 := J3.suite he3 hd3 na nL nF
    have go : ∀ {hds' : List ExceptHandler} {l' : List (Value × Nat × (Addr → Value → Option Addr → TS))}, HdsNm X hds' l' → wNm X.K Wout D l' cls d σ' H' →
        wpAny (model X.prog X.w) X.A (handleBy (.ref a) X.env hds') (L2.SP X pins D) X.xe { s' with heap := h3 } := by
      intro hds' l' hk
      induction hk with
      | nil =>
        intro w
        refine wpAny_handleBy_nil ?_
        obtain ⟨k1, k2, k3, oe, vs, T, oT, ts', he, hz, hd, h1, hr⟩ := id fl3
        unfold PySem.passOn
        refine wpAny_bind (wpAny_field he hd h1 ?_)
        rw [if_neg (show ¬ ((Value.ref T == Value.none) = true) from by simp)]
        have fin : wpAny (model X.prog X.w) X.A (setFlight (.ref a) X.env.frame) (fun _ s4 => wpAny (model X.prog X.w) X.A (throw (.ref a) : Sem Flow) (L2.SP X pins D) X.xe s4) X.xe { s' with heap := h3 } := by
          rw [hf]
          refine HandSPX.setFlight_upZ fl3 fun h4 hh4 up4 => wpAny_throw (tk _ _ ?_)
          exact ⟨a, B, sI, pins, σ', H', cls, d, rfl, J, nb, (up.trans up3).trans up4, .inr (.inr (by rw [hs]; exact hh4)), na, os, ag, w⟩
        first
          | exact wpAny_bind (wpAny_pure (wpAny_bind fin))
          | exact wpAny_bind fin
      | @cons x n i c ts b₀ suite np pos' hds2 l2 hc hi hln hsu r ih =>
        intro w
        obtain ⟨b, hb1, hyes, hno⟩ := w
        refine wpAny_handleBy_cons (codeAny_handlers_test ?_) (by intro q; cases q)
        have LT : PySem.W.Looks (model X.prog X.w) h3 (typeOf (.ref a)) cls := fun A Q E s k q => wpAny_typeOf_ref (k _ _ he3) (by rw [hz3.1]; exact q)
        have LM := PySem.W.exm_one (M := model X.prog X.w) (J3.kIn) LT hb1
        have test : ∀ {Q : Value → Shared → Prop} {E : Value → Shared → Prop}, Q c { s' with heap := h3 } → wpAny (model X.prog X.w) (X.A.mark (some (.ref a))) (eval (.Name x np) X.env) Q E { s' with heap := h3 } := fun {Q E} q => by
          obtain ⟨hg, hdbg, hm | ⟨hm, hv, hnn⟩⟩ := hc
          · exact ld_glob (X := X.suite a ((a, oe3) :: (X.pn ++ pins))) S3 hg hm q hdbg
          · exact ld_blt (X := X.suite a ((a, oe3) :: (X.pn ++ pins))) S3 hg hm hv q hnn hdbg
        refine test (LM.here ?_)
        cases b with
        | true =>
          refine codeAny_handlers_suite_as ?_
          refine HandSPX.lands_againZ fl3 fun h4 fl4 up4 => ?_
          have J4 : Inv X pins σ' H' { s' with heap := h4 } := J.landed nb fl4.1 ((up.trans up3).trans up4) os ag
          obtain ⟨oe4, vs4, he4, hz4, hd4⟩ := fl4.there
          have S4 := J4.suite he4 hd4 na nL nF
          have hloc : Loc X.env.scope n := .inl hln
          refine store_ok (X := X.suite a ((a, oe4) :: (X.pn ++ pins))) (v := .ref a) S4 hN hi hloc rfl (fun s5 S5 => ?_) (.inr hln)
          refine wpAny_mono ((hsu a oe4 cls d (X.pn ++ pins) hz4 ⟨_, hd4⟩).run [] s5 _ H' _ S5 (hyes rfl a na)) (fun f s6 hsp => ?_) (fun _ _ z => False.elim z)
          have end_ : ∀ {σ6 : L2.St} {H6 : Hp} {Q : Shared → Prop}, Inv (X.suite a ((a, oe4) :: (X.pn ++ pins))) [] σ6 H6 s6 → (∀ s7, Inv X pins (σ6.set i none) H6 s7 → Q s7) →
              wpAny (model X.prog X.w) X.A (do bindName X.env n .none; unbindBehindTheSuite X.env n pos') (fun _ s7 => Q s7) X.xe s6 := fun {σ6 H6 Q} S6 hq => gone_ok (S6.unsuite ok) hN hi hln hq
          cases f with
          | next =>
            obtain ⟨σ6, H6, S6, q6⟩ := hsp
            exact end_ S6 fun s7 J7 => ⟨_, _, J7, q6⟩
          | brk =>
            obtain ⟨σ6, H6, S6, q6⟩ := hsp
            exact end_ S6 fun s7 J7 => ⟨_, _, J7, q6⟩
          | cont =>
            obtain ⟨σ6, H6, S6, q6⟩ := hsp
            exact end_ S6 fun s7 J7 => ⟨_, _, J7, q6⟩
          | ret u =>
            obtain ⟨v6, σ6, H6, S6, r6, q6⟩ := hsp
            exact end_ S6 fun s7 J7 => ⟨_, _, _, J7, r6, q6⟩
        | false =>
          show wpAny _ X.A (handleBy (.ref a) X.env hds2) _ _ _
          exact ih (hno rfl)
    exact go hh w
  · cases f with
    | next =>
      obtain ⟨σ', H', J', q⟩ := hsp
      exact wpAny_execs_nil ⟨σ', H', J'.ofTry ok, q⟩
    | brk =>
      obtain ⟨σ', H', J', q⟩ := hsp
      exact ⟨σ', H', J'.ofTry ok, q⟩
    | cont =>
      obtain ⟨σ', H', J', q⟩ := hsp
      exact ⟨σ', H', J'.ofTry ok, q⟩
    | ret u =>
      obtain ⟨v, σ', H', J', r, q⟩ := hsp
      exact ⟨v, σ', H', J'.ofTry ok, r, q⟩
end

/-! ### the rule -/
/-- return A if isinstance(n, ValueError) else B -/
abbrev hSuite (n A B : Str) (ja jb : Nat) (p1 p2 p3 p4 p5 p6 p7 p8 p9 : Pos) : List Stmt :=
  [.Return (some (.IfExp (.Call (.Name (Str.ofString "isinstance") p1) [.Name n p2, .Name (Str.ofString "ValueError") p3] [] p4) (.Constant (.str A) ja p5) (.Constant (.str B) jb p6) p7)) p8]
theorem suite_ok {C : CC} {X : Cx} {W : WX} {Φ : PhiT} {FA CA : Nat → Option Addr} {n A B : Str} {i ja jb : Nat} {p1 p2 p3 p4 p5 p6 p7 p8 p9 : Pos} {Cd : Addr} (O : Ok C X W Φ FA CA) (hi : C.N[i]? = some n) (hl : kindIs C.sc n .local = true) (hd : (n == ("__debug__" : Str)) = false) (hcd : (n == ("__classdict__" : Str)) = false)
    (hb : bltB C "isinstance" (.builtin "isinstance") = true) (ht : tyB C "ValueError" = true) (hC : ExcC X.K Cd) (hk : PySem.W.kitOne X.K (.ref Cd) (.type "ValueError") = some true)
    (a : Addr) (oe : Obj) (cls : Value) (d : Option Addr) (pn : List (Addr × Obj)) (hz : Zc cls d oe) (hf : ∃ vs, oe.data = .fields vs) :
    PSs (X.suite a ((a, oe) :: pn)) (hSuite n A B ja jb p1 p2 p3 p4 p5 p6 p7 p8 p9) (fun D σ H => cls = .ref Cd ∧ d = none ∧ (i < σ.length → σ[i]? = some (some (.ref a))) ∧ D.rt (.str A) H) := by
  refine ⟨fun pins s σ H D I h => ?_⟩
  obtain ⟨rfl, rfl, hs, q⟩ := h
  have hN : X.N[i]? = some n := by rw [O.N]; exact hi
  have hlen : i < σ.length := by
    rw [I.len]
    exact (List.getElem?_eq_some_iff.mp hN).1
  obtain ⟨i1, i2, i3, i4, i5⟩ := bltB_of hb
  obtain ⟨t1, t2, t3, t4, t5⟩ := tyB_of ht
  have g1 : Gl (X.suite a ((a, oe) :: pn)) (Str.ofString "isinstance") := (show Gl X _ from glx O i1)
  have g2 : Gl (X.suite a ((a, oe) :: pn)) (Str.ofString "ValueError") := (show Gl X _ from glx O t1)
  have m1 : (X.suite a ((a, oe) :: pn)).mg (Str.ofString "isinstance") = none := O.gi _ _ i2
  have m2 : (X.suite a ((a, oe) :: pn)).mg (Str.ofString "ValueError") = none := O.gi _ _ t2
  have hv : Vis (X.suite a ((a, oe) :: pn)).env.scope n := by
    show Vis X.env.scope n
    rw [O.sc]
    exact .inl (kind_of hl)
  have pn1 : PE (X.suite a ((a, oe) :: pn)) (.Name n p2) (tVar i) := pe_var hN hv hd hcd
  have pn2 : PE (X.suite a ((a, oe) :: pn)) (.Name (Str.ofString "ValueError") p3) (tC (.ty "ValueError")) := pe_bltn g2 m2 t3 rfl t4 t5
  have pc : PE (X.suite a ((a, oe) :: pn)) (.Call (.Name (Str.ofString "isinstance") p1) [.Name n p2, .Name (Str.ofString "ValueError") p3] [] p4) _ :=
    pe_callB (call_isE hC hz hf) g1 m1 i3 (pa_cons pn1 (pa_cons pn2 pa_nil rfl) rfl) i4 i5 rfl rfl
  have pt := pt_truth pc (fun _ => rfl)
  refine (pss_cons (ps_ret (pos := p8) (pe_ifExp (pos := p7) pt (pe_str (x := A) (j := ja) (pos := p5)) (pe_str (x := B) (j := jb) (pos := p6)))) pss_nil).run pins s σ H D I ?_
  exact ⟨.ref a, hs hlen, .ty "ValueError", .type "ValueError", true, rfl, fun u r => ClsV.eq (.ty "ValueError") r, hk, true, rfl, q⟩

/-- the clauses, read -/
def SHs (C : CC) (hds : List ExceptHandler) (hs : List (Nat × D)) : Prop := ∀ X W Φ FA CA, Ok C X W Φ FA CA → ∃ L, HdsNm X hds L ∧ ∀ (Wout : WX) (D : Ends) (c : Nat) (D0 : Addr) (σ : L2.St) (H : Hp), CA c = some D0 →
  (∀ d, hs.lookup c = some d → ∀ x, (∀ F, Rp X.K FA F x d) → D.rt x H) → (hs.lookup c = none → Wout (.ref D0) none σ H) → wNm X.K Wout D L (.ref D0) none σ H
theorem hs_nil {C : CC} : SHs C [] [] := fun X W Φ FA CA O => ⟨[], .nil, fun Wout D c D0 σ H hc h1 h2 => h2 rfl⟩
theorem hs_cons {C : CC} {x n A B : Str} {i c ja jb : Nat} {np p1 p2 p3 p4 p5 p6 p7 p8 p9 pos' : Pos} {hds : List ExceptHandler} {hs : List (Nat × D)} (hk : kindIs C.sc x .globalImplicit = true) (hg : C.gi x = some (.exc c)) (hdb : (x == ("__debug__" : Str)) = false)
    (hi : C.N[i]? = some n) (hl : kindIs C.sc n .local = true) (hd : (n == ("__debug__" : Str)) = false) (hcd : (n == ("__classdict__" : Str)) = false)
    (hb : bltB C "isinstance" (.builtin "isinstance") = true) (ht : tyB C "ValueError" = true) (hA : (A.cps.toList.all fun c => decide (c < 1114112)) = true) (r : SHs C hds hs) :
    SHs C (.ExceptHandler (some (.Name x np)) (some n) (hSuite n A B ja jb p1 p2 p3 p4 p5 p6 p7 p8 p9) pos' :: hds) ((c, .str A.cps.toList) :: hs) := fun X W Φ FA CA O => by
  obtain ⟨L, h1, h2⟩ := r X W Φ FA CA O
  obtain ⟨Cd, hA1, hm, B0, ni, ii, bm, F, q, kC, s1, s2, hC, hkit⟩ := O.gi x _ hg
  refine ⟨(.ref Cd, i, fun a cls d => fun D σ H => cls = .ref Cd ∧ d = none ∧ (i < σ.length → σ[i]? = some (some (.ref a))) ∧ D.rt (.str A) H) :: L,
    .cons ⟨glx O hk, hdb, .inl hm⟩ (by rw [O.N]; exact hi) (by show X.env.scope.names.lookup n = _; rw [O.sc]; exact kind_of hl) (fun a oe cls d pn hz hf => suite_ok (p9 := p9) O hi hl hd hcd hb ht hC hkit a oe cls d pn hz hf) h1, fun Wout D c' D0 σ H hc w1 w2 => ?_⟩
  refine ⟨decide (c' = c), PySem.W.exm_ref s1 hC.hd s2 (O.xx c' c D0 Cd hc hA1), fun e a ha => ?_, fun e => ?_⟩
  · have e : c' = c := of_decide_eq_true e
    subst e
    rw [hA1] at hc
    cases hc
    refine ⟨rfl, rfl, fun hlt => ?_, w1 (.str A.cps.toList) (by rw [List.lookup_cons, beq_self_eq_true]) _ fun F => ?_⟩
    · rw [List.length_set] at hlt
      exact List.getElem?_set_self hlt
    · simp only [List.all_eq_true, decide_eq_true_eq] at hA
      exact .str A.cps.toList hA
  · have e : ¬ c' = c := of_decide_eq_false e
    have e2 : (c' == c) = false := by simpa using e
    exact h2 Wout D c' D0 σ H hc (fun d hd' => w1 d (by rw [List.lookup_cons, e2]; exact hd')) fun hn => w2 (by rw [List.lookup_cons, e2]; exact hn)
theorem st_try {C : CC} {body : List Stmt} {h₀ : ExceptHandler} {hds : List ExceptHandler} {hs : List (Nat × D)} {cb : Ss} {pos : Pos} (hfb : C.fb = true) (hb : SSs C body cb) (hh : SHs C (h₀ :: hds) hs) : SS C (.Try body (h₀ :: hds) [] [] pos) (.tr cb hs) := fun X W Φ FA CA O => by
  obtain ⟨L, h1, h2⟩ := hh X W Φ FA CA O
  refine ⟨_, ps_try_nm (tb := fun W' => fun D σ H => ∃ Z ρ F, SR X.K FA Z σ H ρ F ∧ PoS X.K FA CA W' C.fx Z σ H F (evSs Φ cb ρ) D) (O.fb hfb).1 (O.fb hfb).2 (by rw [O.N]; exact O.nd) O.tk (fun W' pn xe tk po => ?_) h1, fun Z σ H ρ F D S p => ?_⟩
  · have G : ∀ x g, C.gi x = some g → GOk (X.tr pn xe) FA CA Φ x g := fun x g h => by
      have q := O.gi x g h
      cases g <;> exact q
    have O' : Ok C (X.tr pn xe) W' Φ FA CA := { N := O.N, nd := O.nd, sc := O.sc, calm := O.calm, fnb := O.fnb, tk := tk, room := O.room, po := po, gi := G, fb := O.fb, xx := O.xx, fa := O.fa }
    obtain ⟨t, t1, t2⟩ := hb (X.tr pn xe) W' Φ FA CA O'
    exact ⟨fun pins s σ H D I ⟨Z, ρ, F, S, p⟩ => t1.run pins s σ H D I (t2 Z σ H ρ F D S p)⟩
  · rw [evS] at p
    refine ⟨Z, ρ, F, S, ?_⟩
    cases ho : evSs Φ cb ρ with
    | nx ρ' => rw [ho] at p; exact p
    | rt s ρ' => rw [ho] at p; exact p
    | bk ρ' => rw [ho] at p; exact p
    | ct ρ' => rw [ho] at p; exact p
    | bad => rw [ho] at p; exact p
    | ex x ρ' =>
      rw [ho] at p
      intro σ' H' F' e S' f D0 hD0 ha
      unfold trO at p
      dsimp only at p
      rw [ha] at p
      dsimp only at p
      refine h2 W D x.c D0 σ' H' hD0 (fun d hd v hv => ?_) fun hn => ?_
      · rw [hd] at p
        exact p v σ' H' F' e S' f (.v (hv F'))
      · rw [hn] at p
        exact p σ' H' F' e S' f D0 hD0 ha
end Rf

set_option maxHeartbeats 1000000
/-! Rf9s: slices from a place down; calls of a def that a name holds. -/
namespace Rf
open PySem PySem.Spec L2
open PyProof.Rows hiding St
theorem sRx_le (n : Nat) (lo : Option Int) : sRx n lo ≤ n ∨ (∃ v, lo = some v ∧ v < 0) := by
  cases lo with
  | none => exact .inl (Nat.le_refl _)
  | some v =>
    by_cases h : v < 0
    · exact .inr ⟨v, rfl, h⟩
    · left
      show (if v < 0 then (v + (n : Int) + 1).toNat else min (v.toNat + 1) n) ≤ n
      rw [if_neg h]
      omega
theorem sRx_le' (n : Nat) (lo : Option Int) : sRx n lo ≤ n := by
  rcases sRx_le n lo with h | ⟨v, rfl, h⟩
  · exact h
  · show (if v < 0 then (v + (n : Int) + 1).toNat else min (v.toNat + 1) n) ≤ n
    rw [if_pos h]
    omega
theorem sRx_bnd (n : Nat) (lo : Option Int) : sliceBounds lo none (some (-1)) n = ((sRx n lo : Int) - 1, -1, -1) := by
  have h0 : ¬ ((-1 : Int) > 0) := by decide
  cases lo with
  | none => rfl
  | some v =>
    simp only [sliceBounds, Option.getD_some, h0, if_false]
    refine Prod.ext ?_ rfl
    show max (-1) (min (if v < 0 then v + (n : Int) else v) ((n : Int) - 1)) = ((if v < 0 then (v + (n : Int) + 1).toNat else min (v.toNat + 1) n : Nat) : Int) - 1
    by_cases h : v < 0
    · rw [if_pos h, if_pos h]
      omega
    · rw [if_neg h, if_neg h]
      omega
theorem sRx_str (n : Nat) (lo : Option Int) : Builtin.Str.strSliceIndices lo none (-1) n = (List.range (sRx n lo)).map fun k => sRx n lo - 1 - k := by
  rw [← PySem.W.krv_sliceRange]
  unfold Builtin.Str.strSliceIndices
  have h0 : ¬ ((-1 : Int) > 0) := by decide
  simp only [h0, if_false]
  have := congrArg Prod.fst (sRx_bnd n lo)
  simp only [sliceBounds, Option.getD_some, h0, if_false] at this
  exact congrArg (fun a => sliceRange a (-1) (-1)) this
theorem sRx_adj (n : Nat) (lo : Option Int) : Builtin.Slice.sliceAdjust lo none (-1) (n : Int) = ((sRx n lo : Int) - 1, -1) := by
  have h1 : ((-1 : Int) < 0) := by decide
  unfold Builtin.Slice.sliceAdjust
  simp only [h1, if_true]
  refine Prod.ext ?_ rfl
  cases lo with
  | none => rfl
  | some v =>
    show (if v < 0 then max (v + (n : Int)) (-1) else min v ((n : Int) - 1)) = ((if v < 0 then (v + (n : Int) + 1).toNat else min (v.toNat + 1) n : Nat) : Int) - 1
    by_cases h : v < 0
    · rw [if_pos h, if_pos h]
      omega
    · rw [if_neg h, if_neg h]
      omega
theorem sRx_plc (k : Nat) : Builtin.Slice.slicePlaces ((k : Int) - 1) (-1) (-1) = k := by
  unfold Builtin.Slice.slicePlaces
  have h1 : ¬ ((-1 : Int) > 0) := by decide
  rw [if_neg h1]
  by_cases h : (k : Int) - 1 > -1
  · rw [if_pos h]
    have : (- -1 : Int) = 1 := by decide
    rw [this, Int.ediv_one]
    omega
  · rw [if_neg h]
    omega
theorem fm_congr {α β : Type} {f g : α → Option β} : ∀ {l : List α}, (∀ m ∈ l, f m = g m) → l.filterMap f = l.filterMap g
  | [], _ => rfl
  | x :: l, h => by rw [List.filterMap_cons, List.filterMap_cons, h x List.mem_cons_self, fm_congr fun m hm => h m (List.mem_cons_of_mem _ hm)]
theorem pick_down {α : Type} (xs : Array α) (k : Nat) (hk : k ≤ xs.size) : ((List.range k).map fun j => k - 1 - j).filterMap (xs[·]?) = (xs.toList.take k).reverse := by
  rw [PySem.W.krv_range, List.filterMap_reverse]
  congr 1
  apply List.ext_getElem?
  intro i
  have e : ∀ j ∈ List.range k, xs[j]? = (fun j => xs[j]?) j := fun _ _ => rfl
  have key : ∀ m, m ≤ xs.size → (List.range m).filterMap (xs[·]?) = xs.toList.take m := fun m => by
    induction m with
    | zero => intro _; simp
    | succ m ih =>
      intro hm
      have hl : m < xs.size := by omega
      rw [List.range_succ, List.filterMap_append, ih (by omega), List.take_succ]
      congr 1
      simp [hl]
  rw [key k hk]
/-- a[lo::-1] of a value -/
def SlD (X : Cx) (r : V → Option Int → Hp → VK → Prop) : Prop :=
  ∀ (pins : List (Addr × Obj)) (s : Shared) (σ : St) (H : Hp) (x : V) (v vl vs : Value) (lo : Option Int) (sl : Addr) (Q : VK), Inv X pins σ H s → RelV x v → s.heap.IsSliceOf sl vl .none vs → IsPart vl lo → IsPart vs (some (-1)) → r x lo H Q →
    ∃ T id, typeLookup (.type T) "__getitem__" = pure (some (.builtin id)) ∧ s.TypeIs v T ∧ wpAny (model X.prog X.w) X.A (getItem v (.ref sl)) (EP X pins σ Q) X.xe s
theorem SlD.or {X : Cx} {r r' : V → Option Int → Hp → VK → Prop} (h : SlD X r) (h' : SlD X r') : SlD X (fun x lo H Q => r x lo H Q ∨ r' x lo H Q) := by
  intro pins s σ H x v vl vs lo sl Q I rx hs pl pu q
  rcases q with q | q
  · exact h pins s σ H x v vl vs lo sl Q I rx hs pl pu q
  · exact h' pins s σ H x v vl vs lo sl Q I rx hs pl pu q
def tDn (r : V → Option Int → Hp → VK → Prop) (te : TE) (tl : TO) : TE := fun σ H Q => te σ H fun x H1 => tl σ H1 fun l H2 => r x l H2 Q
theorem pe_down {X : Cx} {r : V → Option Int → Hp → VK → Prop} {e : Expr} {te : TE} {lo : Option Expr} {tl : TO} {k : Nat} {p1 p2 p3 pos : Pos} (hr : SlD X r) (he : PE X e te) (hl : PO X lo tl) : PE X (.Subscript e (.Slice lo none (some (.UnaryOp .USub (.Constant (.int 1) k p1) p2)) p3) pos) (tDn r te tl) := by
  refine ⟨fun pins s σ H Q I h => ?_⟩
  refine PyProof.Rows.Subscript_ (thn (he.run pins s σ H _ I h) fun v s1 ⟨x, H1, I1, r1, q1⟩ => ?_)
  have hst : PO X (some (.UnaryOp .USub (.Constant (.int 1) k p1) p2)) (tPart (tUn (rU fun i => .int (-i)) (tC (.int 1)))) := po_some (pe_un un_neg pe_int)
  refine wpAny_Slice (thn (hl.run pins s1 σ H1 _ I1 q1) fun vl s2 ⟨l, H2, I2, pl, q2⟩ => ?_)
  refine thn (po_none.run pins s2 σ H2 (fun o H3 => o = none ∧ H3 = H2) I2 ⟨rfl, rfl⟩) fun vu s3 ⟨u, H3, I3, pu, eu, e3⟩ => ?_
  subst eu e3
  refine thn (hst.run pins s3 σ H3 (fun o H4 => o = some (-1) ∧ H4 = H3) I3 ⟨1, rfl, -1, rfl, rfl, rfl⟩) fun vs s4 ⟨o, H4, I4, ps, eo, e4⟩ => ?_
  subst eo e4
  cases pu
  have I5 : Inv X pins σ H4 { s4 with heap := s4.heap.push { cls := .type "slice", data := .fields #[vl, .none, vs] } } := I4.kept (t' := s4.toks) fun b ob q => Heap.get?_push_of_some _ q
  obtain ⟨T, id, hT, ht, hg⟩ := hr pins { s4 with heap := s4.heap.push { cls := .type "slice", data := .fields #[vl, .none, vs] } } σ H4 x v vl vs l s4.heap.objs.size Q I5 r1 (Heap.IsSliceOf.new ..) pl ps q2
  show wpAny (model X.prog X.w) X.A (subscriptTail e (.Slice lo none (some (.UnaryOp .USub (.Constant (.int 1) k p1) p2)) p3) v (.ref s4.heap.objs.size)) (EP X pins σ Q) X.xe { s4 with heap := s4.heap.push { cls := .type "slice", data := .fields #[vl, .none, vs] } }
  exact tail_any (ops := [v, .ref s4.heap.objs.size]) ht hT hg (by with_unfolding_all rfl)
def rDnL (K : PySem.W.Frag) : V → Option Int → Hp → VK → Prop := fun x lo H Q => ∃ a xs, x = .ref a ∧ SqL K H a xs ∧ ∀ p, H p = none → Q (.ref p) (upd H p (.lst (rvL xs lo)))
theorem rvL_len {α : Type} (xs : List α) (lo : Option Int) : (rvL xs lo).length ≤ xs.length := by
  unfold rvL
  rw [List.length_reverse, List.length_take]
  omega
theorem sd_list {X : Cx} : SlD X (rDnL X.K) := by
  intro pins s σ H x v vl vs lo sl Q I rx hs pl ps h
  obtain ⟨a, xs, rfl, hx, q⟩ := h
  cases rx
  obtain ⟨its, r, ht, hz⟩ := I.list hx
  have hlen := r.length
  refine ⟨"list", _, PySem.slot_list_getitem.lookup, ht.isList.typeIs, ?_⟩
  refine wpAny_getItem_list_slice ht.isList hs pl .none ps (by decide) ?_ (by rw [List.size_toArray]; omega)
  have e : slicePick its.toArray lo none (some (-1)) = (rvL its lo).toArray := by
    unfold slicePick
    rw [sRx_bnd]
    show ((sliceRange ((sRx its.toArray.size lo : Int) - 1) (-1) (-1)).filterMap (its.toArray[·]?)).toArray = _
    rw [PySem.W.krv_sliceRange, pick_down _ _ (by exact sRx_le' _ _)]
    rfl
  rw [e]
  have rr : Vals (rvL xs lo) (rvL its lo) := by
    unfold rvL
    rw [hlen]
    exact (r.take _).reverse
  refine ⟨.ref _, _, I.laid (t' := s.toks) (o := .lst (rvL xs lo)) (fun b ob q => Heap.get?_push_of_some _ q) (Nat.le_refl _) ?_, rfl, q _ (I.hok.fresh (Nat.le_refl _))⟩
  exact ⟨Nat.le_trans (rvL_len xs lo) hz, _, 0, rr, Heap.get?_push_size _ rfl⟩
def rDnT (K : PySem.W.Frag) : V → Option Int → Hp → VK → Prop := fun x lo H Q => ∃ a xs, x = .ref a ∧ SqT K H a xs ∧ ∀ p, H p = none → Q (.ref p) (upd H p (.tup (rvL xs lo)))
section
variable {prog : Program} {w : World} {A : Around} {E : Value → Shared → Prop} {s : Shared}
open HT in
theorem getItem_tuple_down {t sl : Addr} {items : Array Value} {vl vs : Value} {lo : Option Int} {Q : Value → Shared → Prop} (ht : IsTup s.heap t items) (hs : s.heap.IsSliceOf sl vl .none vs) (pl : IsPart vl lo) (ps : IsPart vs (some (-1)))
    (h : Q (.ref s.heap.objs.size) { s with heap := s.heap.push { cls := .type "tuple", data := .seq (rvL items.toList lo).toArray } })
    (hsz : items.size ≤ sizeLine) : wpAny (model prog w) A (getItem (.ref t) (.ref sl)) Q E s := by
  have htake : sizeOk (.seq (rvL items.toList lo).toArray) := by
    show (rvL items.toList lo).toArray.size ≤ sizeLine
    rw [List.size_toArray]
    have := rvL_len items.toList lo
    rw [Array.length_toList] at this
    exact Nat.le_trans this hsz
  obtain ⟨os, hos, hcs, hds⟩ := id hs
  have hTs : s.TypeIs (.ref sl) "slice" := ⟨os, hos, hcs⟩
  unfold getItem
  try with_reducible refine wpAny_holding ?_
  first | refine wpAny_bind (wpAny_pure ?_) | skip
  refine wpAny_bind (wpAny_sequenceKey (T := "tuple") ht.typeIs (by decide) ?_)
  refine wpAny_bind (wpAny_callSpecial?_slot (name := Str.ofString "__getitem__") ht.typeIs PyProof.Rows.slot_tuple_getitem
    (wpAny_call_entry PyProof.Rows.slot_tuple_getitem ht.typeIs entry_tuple_getitem ?_ (args_tuple_getitem _ _)))
  show wpAny _ _ (Builtin.Tuple.tupleItemsOf (.ref t) >>= _) _ _ s
  refine wpAny_bind (tupleItemsOf_ ht ?_)
  refine wpAny_bind (wpAny_typeOf hTs ?_)
  rw [if_pos (by decide)]
  have app : ∀ {A : Around} {Q : Int × Int × Nat → Shared → Prop}, Q ((sRx items.size lo : Int) - 1, -1, sRx items.size lo) s → wpAny (model prog w) A (Builtin.Slice.sliceApplied (.ref sl) (pure (items.size : Int))) Q E s := fun {A Q} h => by
    unfold Builtin.Slice.sliceApplied Builtin.Slice.sliceFields
    refine wpAny_bind (wpAny_bind (wpAny_field hos hds (x := vl) rfl (wpAny_bind (wpAny_field hos hds (x := .none) rfl (wpAny_bind (wpAny_field hos hds (x := vs) rfl (wpAny_pure ?_)))))))
    refine wpAny_bind (slicePart_ ps ?_)
    show wpAny _ _ (if ((-1 : Int) == 0) = true then _ else _) _ _ s
    rw [if_neg (by decide)]
    refine wpAny_bind (slicePart_ pl (wpAny_bind (slicePart_none (wpAny_bind (wpAny_pure ?_)))))
    show wpAny _ _ (match Builtin.Slice.sliceAdjust lo none (-1) (items.size : Int) with | (lo, hi) => pure (lo, (-1 : Int), Builtin.Slice.slicePlaces lo hi (-1))) _ _ s
    rw [sRx_adj]
    show wpAny _ _ (pure ((sRx items.size lo : Int) - 1, (-1 : Int), Builtin.Slice.slicePlaces ((sRx items.size lo : Int) - 1) (-1) (-1))) _ _ s
    rw [sRx_plc]
    exact wpAny_pure h
  refine wpAny_bind (app ?_)
  have hno : ¬ ((((sRx items.size lo : Int) - 1) == 0 && (-1 : Int) == 1 && (sRx items.size lo) == items.size) = true) := by
    intro q
    rw [Bool.and_eq_true, Bool.and_eq_true] at q
    exact absurd q.1.2 (by decide)
  show wpAny _ _ (if (((sRx items.size lo : Int) - 1) == 0 && (-1 : Int) == 1 && (sRx items.size lo) == items.size) = true then _ else _) _ _ s
  have ep : ((List.range (sRx items.size lo)).filterMap fun (m : Nat) => items[(((sRx items.size lo : Int) - 1) + (m : Int) * (-1)).toNat]?).toArray = (rvL items.toList lo).toArray := by
    have e : ∀ m ∈ List.range (sRx items.size lo), (fun (m : Nat) => items[(((sRx items.size lo : Int) - 1) + (m : Int) * (-1)).toNat]?) m = ((items[·]?) ∘ fun j => sRx items.size lo - 1 - j) m := fun m hm => by
      have := List.mem_range.mp hm
      show items[(((sRx items.size lo : Int) - 1) + (m : Int) * (-1)).toNat]? = items[sRx items.size lo - 1 - m]?
      have : (((sRx items.size lo : Int) - 1) + (m : Int) * (-1)).toNat = sRx items.size lo - 1 - m := by omega
      rw [this]
    have e2 := pick_down items (sRx items.size lo) (sRx_le' _ _)
    rw [List.filterMap_map] at e2
    rw [fm_congr e, e2]
    unfold rvL
    rw [Array.length_toList]
  rw [if_neg hno, ep]
  first
    | exact wpAny_bind (m := Builtin.Tuple.tupleExact _) (wpAny_newObj_type (wpAny_pure ⟨_, rfl, wpAny_pure h⟩) htake)
    | exact wpAny_bind (m := Builtin.Tuple.tupleExact _) (wpAny_newObj_type (wpAny_bind (wpAny_pure (wpAny_pure ⟨_, rfl, wpAny_pure h⟩))) htake)
    | exact wpAny_bind (wpAny_bind (m := Builtin.Tuple.tupleExact _) (wpAny_newObj_type (wpAny_pure (wpAny_pure ⟨_, rfl, wpAny_pure h⟩)) htake))
    | exact wpAny_bind (wpAny_bind (m := Builtin.Tuple.tupleExact _) (wpAny_newObj_type (wpAny_pure ⟨_, rfl, wpAny_pure h⟩) htake))
end
theorem sd_tup {X : Cx} : SlD X (rDnT X.K) := by
  intro pins s σ H x v vl vs lo sl Q I rx hs pl ps h
  obtain ⟨a, xs, rfl, hx, q⟩ := h
  cases rx
  obtain ⟨its, r, ht, hz⟩ := I.tuple hx
  have hlen := r.length
  refine ⟨"tuple", _, PyProof.Rows.slot_tuple_getitem.lookup, ht.typeIs, ?_⟩
  refine getItem_tuple_down ht hs pl ps ?_ (by rw [List.size_toArray, ← hlen]; exact hz)
  have rr : Vals (rvL xs lo) (rvL its lo) := by
    unfold rvL
    rw [hlen]
    exact (r.take _).reverse
  refine ⟨.ref _, _, I.laid (t' := s.toks) (o := .tup (rvL xs lo)) (fun b ob q => Heap.get?_push_of_some _ q) (Nat.le_refl _) ?_, rfl, q _ (I.hok.fresh (Nat.le_refl _))⟩
  exact ⟨Nat.le_trans (rvL_len xs lo) hz, _, rr, IsTup.new _ _⟩
def rDnS : V → Option Int → Hp → VK → Prop := fun x lo H Q => ∃ z, x = .str z ∧ z.length ≤ sizeLine ∧ Q (.str ⟨(rvL z.cps.toList lo).toArray⟩) H
theorem sd_str {X : Cx} : SlD X rDnS := by
  intro pins s σ H x v vl vs lo sl Q I rx hs pl ps h
  obtain ⟨z, rfl, hz, q⟩ := h
  obtain ⟨t, rfl⟩ := rx
  obtain ⟨os, hos, hcs, hds⟩ := hs
  obtain ⟨l, rfl, rfl⟩ := IsPart.raw pl
  obtain ⟨st, rfl, es⟩ := IsPart.raw ps
  refine ⟨"str", _, F.slot_str_getitem.lookup, typeIs_str _ _ _, ?_⟩
  refine wpAny_getItem_str_slice (l := l) (u := none) (st := st) ⟨os, hos, hcs, hds⟩ (by rw [es]; rfl) ?_
  have e1 : (st.map (·.1)).getD 1 = (-1 : Int) := by rw [es]; rfl
  have ep : (slicePicked z l none st).filterMap (z.cps[·]?) = rvL z.cps.toList (l.map (·.1)) := by
    unfold slicePicked
    rw [e1]
    show (Builtin.Str.strSliceIndices (l.map (·.1)) none (-1) z.length).filterMap _ = _
    rw [sRx_str, pick_down _ _ (by exact sRx_le' _ _)]
    rfl
  unfold sliceMade
  rw [e1, if_neg (by rw [Bool.and_eq_true]; intro q; exact absurd q.1 (by decide)), ep]
  refine ⟨?_, .str _, H, I.tok _, ⟨_, rfl⟩, q⟩
  show (rvL z.cps.toList (l.map (·.1))).toArray.size ≤ sizeLine
  rw [List.size_toArray]
  exact Nat.le_trans (rvL_len _ _) (by rw [Array.length_toList]; exact hz)
section
variable {C : CC} {a : Expr} {pos : Pos}
theorem rvL_rel {K : PySem.W.Frag} {FA : Nat → Option Addr} {F : Hp} {xs : List V} {ds : List D} {lo : Option Int} (r : Rps K FA F xs ds) : Rps K FA F (rvL xs lo) (rvL ds lo) := by
  unfold rvL
  rw [r.length]
  exact (r.take _).reverse
theorem s_rvs {lo : Option Expr} {k : Nat} {p1 p2 p3 : Pos} {pa : P} {cl : Option E} (ha : SP C a pa) (hl : SO C lo cl) : SE C (.Subscript a (.Slice lo none (some (.UnaryOp .USub (.Constant (.int 1) k p1) p2)) p3) pos) (.rvs pa cl) := fun X W Φ FA CA O => by
  obtain ⟨ta, ha1, ha2⟩ := ha X W Φ FA CA O
  obtain ⟨tl, hl1, hl2⟩ := hl X W Φ FA CA O
  refine ⟨_, pe_down (sd_list.or (sd_tup.or sd_str)) ha1 hl1, fun Z σ H ρ F Q S p => ?_⟩
  rw [evE] at p
  refine ha2 Z σ H ρ F _ S (p.bind.imp fun q1 H1 ρ1 F1 e1 S1 k1 x1 r1 => ?_)
  refine hl2 Z σ H1 ρ1 F1 _ S1 (k1.bind.imp fun l H2 ρ2 F2 e2 S2 k2 => ?_)
  obtain ⟨s, es, k4⟩ := k2.ofO
  obtain ⟨d, h1, h3⟩ := bind2 es
  have rx := (r1.mono e2.sub).rs S2 h1
  cases d with
  | tup ds =>
    cases h3
    obtain ⟨p1, xs, rfl, h1, r1⟩ := rx.tup S2.sub
    exact .inr (.inl ⟨p1, xs, rfl, h1, res_tup S2 (rvL_rel r1) fun x H' F' e' S' R' => k4 H' F' e' S' x R'⟩)
  | lst ds =>
    cases h3
    obtain ⟨p1, xs, rfl, h1, r1⟩ := rx.lst S2.sub
    exact .inl ⟨p1, xs, rfl, .inl (.inl h1), res_lst S2 (rvL_rel r1) fun x H' F' e' S' R' => k4 H' F' e' S' x R'⟩
  | scr ds =>
    cases h3
    obtain ⟨p1, xs, rfl, h1, r1⟩ := rx.scr S2.sub
    exact .inl ⟨p1, xs, rfl, h1, res_lst S2 (rvL_rel r1) fun x H' F' e' S' R' => k4 H' F' e' S' x R'⟩
  | str z =>
    have h3 : (if z.length ≤ SZ then some (Sl.v (.str (rvL z l))) else none) = some s := h3
    by_cases hz : z.length ≤ SZ
    · rw [if_pos hz] at h3
      cases h3
      obtain ⟨e1, v1⟩ := rx.str
      refine .inr (.inr ⟨_, e1, by rw [str_len, ← SZ_eq]; exact hz, ?_⟩)
      refine k4.here S2 _ (.v (.str _ fun c hc => v1 c ?_))
      unfold rvL at hc
      exact List.mem_of_mem_take (List.mem_reverse.mp hc)
    · rw [if_neg hz] at h3
      cases h3
  | _ => cases h3
/-! ### a def that a name holds -/
def tCallV (FA : Nat → Option Addr) (K : PySem.W.Frag) (CA : Nat → Option Addr) (Φ : PhiT) (W : WX) (i : Nat) (t : TA) : TE := fun σ H Q => ∃ f fa, FA f = some fa ∧ σ[i]? = some (some (.ref fa)) ∧ t σ H fun vs H1 => ∀ n, (∀ ss, ss.length ≠ n → Φ f ss = .bad) → spF K FA CA Φ f n vs H1 Q fun c d H' => W c d σ H'
theorem s_callv {x : Str} {i : Nat} {p : Pos} {es : List Expr} {cs : A} (h : visB C x i = true) (ha : SA C (a :: es) cs) (hp : plainE a = true) (hpl : ∀ env, (backTo pos (starEach es env)).any (·.1) = false) : SE C (.Call (.Name x p) (a :: es) [] pos) (.callv i cs) := fun X W Φ FA CA O => by
  obtain ⟨ta, ha1, ha2⟩ := ha X W Φ FA CA O
  refine ⟨tCallV FA X.K CA Φ W i ta, ⟨fun pins s σ H Q I h => ?_⟩, fun Z σ H ρ F Q S p => ?_⟩
  · obtain ⟨f, fa, hfa, hs, ht⟩ := h
    obtain ⟨ps, k, fd, hr, hk, hb, hF, hbad⟩ := O.fa f fa hfa
    refine wpAny_Call_Name_kw (thn ((pe_v (pos := p) O h).run pins s σ H (fun v H1 => v = .ref fa ∧ H1 = H) I ⟨.ref fa, hs, rfl, rfl⟩) fun u s1 ⟨v, H1, I1, r1, q1⟩ => ?_)
    obtain ⟨rfl, rfl⟩ := q1
    cases r1
    refine PySem.W.callWith_K (h₀ := X.base) I.ok.mod.kin hk (thn (ha1.run pos pins s1 σ _ _ I1 ht) fun us s2 ⟨vs, H2, I2, r, q⟩ => ⟨I2.kIn, ?_⟩) (plain_star hp es X.env) (hpl X.env)
    refine run_fnSD (E := fun σ c d H' => W c d σ H') hF hr hb .nil (passAt O.tk σ) I2 r ?_
    rw [List.append_nil]
    exact q ps.length hbad
  · rw [evE] at p
    cases g : gt ρ i with
    | none =>
      rw [g] at p
      exact p.elim
    | some sl =>
      rw [g] at p
      cases sl with
      | o d => exact p.elim
      | v d =>
        cases d with
        | fn f =>
          obtain ⟨x, ex, r⟩ := S.slot i _ (gt_some.mp g)
          have r' : Rp X.K FA F x (.fn f) := r
          cases r' with
          | fn _ hfa =>
            refine ⟨f, _, hfa, ex, ?_⟩
            refine ha2 Z σ H ρ F _ S (Po.imp (Po.bind p) fun qs H1 ρ1 F1 e1 S1 k1 xs r1 n hn => ?_)
            by_cases el : xs.length = n
            · have q := call_sp S1 r1 k1
              rw [el] at q
              exact q
            · exact (call_bad r1 (fun ss h => hn ss (by rw [h]; exact el)) k1).elim
        | _ => exact p.elim
end
end Rf

set_option maxHeartbeats 1000000
/-! Rf9c: comprehensions of two clauses. -/
namespace Rf
open PySem PySem.Spec L2
section
variable {C : CC} {tg e elt iter : Expr} {pos : Pos}
/-- a clause's own turns, the list so far at L -/
theorem lc_loop {X : Cx} {FA CA : Nat → Option Addr} {Φ : PhiT} {g : TG} {tt : TT} {te : TE} {vs : List Nat} {tg' : Tg} {cc : Option T} {ce : E} (h2 : RdG X.K FA (fun i => !vs.contains i) g tg') (h3 : RdT X.K FA CA noW tt (evOT Φ cc)) (h4 : RdE X.K FA CA noW te (evE Φ ce))
    {Z : Addr → Prop} {σ : St} {L : Addr} {Q : VK} {J : It} {ds pre0 : List D} {H1 F1 : Hp} {ρ1 : Env} {acc0 : List V} {n : Nat} (nZ : ¬ Z L) (hJ : ItD X.K FA F1 J ds) (S5 : SR X.K FA (fun a => Z a ∨ a = L) (L2.wipe σ vs) H1 ρ1 F1) (hL0 : H1 L = some (.lst acc0)) (hacc0 : acc0.length ≤ n) (hn : n + ds.length ≤ SZ) (racc0 : Rps X.K FA F1 acc0 pre0)
    (start : LcOk X.K FA Z (fun a => Z a ∨ a = L) (L2.wipe σ vs) L Q pre0 H1 F1 (lcL tg' (evOT Φ cc) (evE Φ ce) vs ds ρ1)) :
    ∃ W : Nat → Nat → Hp → Prop, (∃ m, W 0 m H1) ∧ ∀ i m H, W i m H → (J.stop i H ∧ Q (.ref L) H) ∨ (J.go i H ∧ ∃ Nx : Hp → Prop, (∀ H', Nx H' → ∃ m', m' < m ∧ W (i + 1) m' H') ∧ ∀ x H', J.yld i H x H' → g x (L2.wipe σ vs) H' fun σ2 H2 => L2.wipe σ2 vs = L2.wipe σ vs ∧ tt σ2 H2 fun b H3 =>
      if b = true then te σ2 H3 fun y H4 => ∃ acc, H4 L = some (.lst acc) ∧ acc.length < sizeLine ∧ Nx (upd H4 L (.lst (acc ++ [y]))) else Nx H3) := by
  have zs : ∀ a, Z a → Z a ∨ a = L := fun a z => .inl z
  refine ⟨fun i m H2 => m = ds.length - i ∧ i ≤ ds.length ∧ ∃ ρ2 F9 acc pre, Ext Z F1 H1 F9 H2 ∧ SR X.K FA (fun a => Z a ∨ a = L) (L2.wipe σ vs) H2 ρ2 F9 ∧ H2 L = some (.lst acc) ∧ acc.length ≤ n + i ∧ Rps X.K FA F9 acc pre ∧
      LcOk X.K FA Z (fun a => Z a ∨ a = L) (L2.wipe σ vs) L Q pre H2 F9 (lcL tg' (evOT Φ cc) (evE Φ ce) vs (ds.drop i) ρ2),
    ⟨ds.length, rfl, Nat.zero_le _, _, F1, acc0, pre0, .refl, S5, hL0, by omega, racc0, start⟩, ?_⟩
  rintro i m H2 ⟨rfl, hi, ρ2, F3, acc, pre, x3, T3, hL, hacc, racc, p2⟩
  obtain ⟨j1, j2⟩ := hJ i H2 F3 x3.sub T3.sub
  by_cases hlt : i < ds.length
  · have hd : ds[i]? = some ds[i] := List.getElem?_eq_getElem hlt
    obtain ⟨go, yl⟩ := j2 _ hd
    rw [List.drop_eq_getElem_cons hlt, lcL] at p2
    cases ha : asg tg' (.v ds[i]) ρ2 with
    | none =>
      rw [ha] at p2
      exact p2.elim
    | some ρ3 =>
      rw [ha] at p2
      dsimp only at p2
      refine .inr ⟨go, fun H4 => ∃ ρ4 F4 acc pre, Ext Z F1 H1 F4 H4 ∧ SR X.K FA (fun a => Z a ∨ a = L) (L2.wipe σ vs) H4 ρ4 F4 ∧ H4 L = some (.lst acc) ∧ acc.length ≤ n + (i + 1) ∧ Rps X.K FA F4 acc pre ∧
        LcOk X.K FA Z (fun a => Z a ∨ a = L) (L2.wipe σ vs) L Q pre H4 F4 (lcL tg' (evOT Φ cc) (evE Φ ce) vs (ds.drop (i + 1)) ρ4), fun H4 ⟨ρ4, F4, a4, b4, h⟩ => ⟨ds.length - (i + 1), by omega, rfl, hlt, ρ4, F4, a4, b4, h⟩, fun x H3 y => ?_⟩
      have turn : ∀ F4, Ext (fun a => Z a ∨ a = L) F3 H2 F4 H3 → SR X.K FA (fun a => Z a ∨ a = L) (L2.wipe σ vs) H3 ρ2 F4 → Rp X.K FA F4 x ds[i] → g x (L2.wipe σ vs) H3 fun σ2 H2' => L2.wipe σ2 vs = L2.wipe σ vs ∧ tt σ2 H2' fun b H3' =>
          if b = true then te σ2 H3' fun y H4 => ∃ acc, H4 L = some (.lst acc) ∧ acc.length < sizeLine ∧ (∃ ρ4 F4 acc' pre, Ext Z F1 H1 F4 (upd H4 L (.lst (acc ++ [y]))) ∧ SR X.K FA (fun a => Z a ∨ a = L) (L2.wipe σ vs) (upd H4 L (.lst (acc ++ [y]))) ρ4 F4 ∧ (upd H4 L (.lst (acc ++ [y]))) L = some (.lst acc') ∧ acc'.length ≤ n + (i + 1) ∧ Rps X.K FA F4 acc' pre ∧
            LcOk X.K FA Z (fun a => Z a ∨ a = L) (L2.wipe σ vs) L Q pre (upd H4 L (.lst (acc ++ [y]))) F4 (lcL tg' (evOT Φ cc) (evE Φ ce) vs (ds.drop (i + 1)) ρ4))
          else ∃ ρ4 F4 acc pre, Ext Z F1 H1 F4 H3' ∧ SR X.K FA (fun a => Z a ∨ a = L) (L2.wipe σ vs) H3' ρ4 F4 ∧ H3' L = some (.lst acc) ∧ acc.length ≤ n + (i + 1) ∧ Rps X.K FA F4 acc pre ∧
            LcOk X.K FA Z (fun a => Z a ∨ a = L) (L2.wipe σ vs) L Q pre H3' F4 (lcL tg' (evOT Φ cc) (evE Φ ce) vs (ds.drop (i + 1)) ρ4) := fun F4 e4 T4 r4 => by
        have out : ∀ {F H F' H' : Hp}, Ext (fun a => Z a ∨ a = L) F H F' H' → Ext Z F H F' H' := fun {F H F' H'} e => ⟨e.sub, fun a z => e.keep a (.inl z)⟩
        refine h2 _ (L2.wipe σ vs) H3 ρ2 F4 x (.v ds[i]) ρ3 _ T4 (.v r4) ha fun σ5 H5 F5 e5 T5 f5 => ?_
        have ew : L2.wipe σ5 vs = L2.wipe σ vs := by
          refine wipe_same ?_ fun j hj => f5 j (by simp [hj])
          have l1 := T5.len
          have l2 := T4.len
          rw [wipe_length] at l2
          have l3 : ρ3.length = ρ2.length := by
            exact asg_len _ _ _ _ ha
          omega
        refine ⟨ew, ?_⟩
        have p3 := LcOk.shift p2 (out (e4.trans e5))
        refine h3 _ σ5 H5 ρ3 F5 _ T5 ((LcOk.bind zs p3).imp fun b H6 ρ6 F6 e6 T6 k6 => ?_)
        have wp : ∀ {H F : Hp} {ρ : Env}, SR X.K FA (fun a => Z a ∨ a = L) σ5 H ρ F → SR X.K FA (fun a => Z a ∨ a = L) (L2.wipe σ vs) H (wipeE ρ vs) F := fun {H F ρ} T => by
          have := T.wipe vs
          rw [ew] at this
          exact this
        have keepL : ∀ {F H F' H' : Hp} {u : HO}, Ext (fun a => Z a ∨ a = L) F H F' H' → H L = some u → H' L = some u := fun {F H F' H' u} e h => (e.keep L (.inr rfl)).trans h
        cases b with
        | false =>
          rw [if_neg Bool.false_ne_true] at k6 ⊢
          have e7 := e4.trans (e5.trans e6)
          exact ⟨_, F6, acc, pre, x3.trans (out e7), wp T6, keepL e7 hL, by omega, racc.mono e7.sub, k6⟩
        | true =>
          rw [if_pos rfl] at k6 ⊢
          refine h4.toV _ σ5 H6 ρ6 F6 _ T6 ((LcOk.bind zs k6).imp fun s H7 ρ7 F7 e7 T7 k7 y7 r7 => ?_)
          have e8 := e4.trans (e5.trans (e6.trans e7))
          have hL7 := keepL e8 hL
          have racc7 := racc.mono e8.sub
          have T8 := wp T7
          have nF7 : F7 L = none := (T7.zf L (.inr rfl)).1
          -- the list at L grows
          have T9 : SR X.K FA (fun a => Z a ∨ a = L) (L2.wipe σ vs) (upd H7 L (.lst (acc ++ [y7]))) (wipeE ρ7 vs) F7 := by
            refine ⟨fun a o q => ?_, fun a z => ?_, T8.len, fun j t q => ?_, T8.oz, T8.dis⟩
            · rw [upd_ne (fun e => by rw [e, nF7] at q; cases q)]
              exact T8.sub a o q
            · rcases z with z | rfl
              · rw [upd_ne (fun e => nZ (by rw [← e]; exact z))]
                exact T8.zf a (.inl z)
              · exact ⟨nF7, _, upd_same⟩
            · obtain ⟨xx, exx, rr⟩ := T8.slot j t q
              refine ⟨xx, exx, rr.mono .refl fun a ea ⟨dd, ed⟩ => ?_⟩
              subst ea ed
              have hne : a ≠ L := fun e => T8.oz j a ⟨exx, dd, q⟩ (.inr e)
              obtain ⟨a', _, _, ea, _, n, _⟩ := own_lst rr
              cases ea
              exact ⟨n, upd_ne hne⟩
          have eg : Ext Z F7 H7 F7 (upd H7 L (.lst (acc ++ [y7]))) := ⟨.refl, fun a z => upd_ne fun e => nZ (by rw [← e]; exact z)⟩
          refine ⟨acc, hL7, by rw [← SZ_eq]; omega, _, F7, acc ++ [y7], pre ++ [s.d], x3.trans ((out e8).trans eg), T9, upd_same, by rw [List.length_append, List.length_singleton]; omega, racc7.append (.cons r7 .nil), ?_⟩
          exact (LcOk.cons k7).shift eg
      rcases yl x H3 y with ⟨rfl, r⟩ | ⟨pp, o, np, rfl, r⟩
      · exact turn F3 .refl T3 r
      · obtain ⟨T4, e4⟩ := T3.grow (o := o) np
        exact turn _ e4 T4 r
  · have e : i = ds.length := by omega
    subst e
    rw [List.drop_length, lcL] at p2
    exact .inl ⟨j1 (Nat.le_refl _), p2 H2 F3 acc .refl T3 hL (by rw [List.append_nil]; exact racc)⟩

theorem lcL_len {tg : Tg} {c : Env → R Bool} {f : Env → R Sl} {own : List Nat} : ∀ {xs : List D} {ρ ρ' : Env} {ds : List D}, lcL tg c f own xs ρ = .ok ds ρ' → ds.length ≤ xs.length
  | [], ρ, ρ', ds, h => by
    cases h
    exact Nat.le_refl _
  | x :: xs, ρ, ρ', ds, h => by
    rw [lcL] at h
    cases ha : asg tg (.v x) ρ with
    | none => rw [ha] at h; cases h
    | some ρ1 =>
      rw [ha] at h
      dsimp only at h
      cases hc : c ρ1 with
      | ex x ρ2 => rw [hc] at h; cases h
      | bad => rw [hc] at h; cases h
      | ok b ρ2 =>
        rw [hc, R.bind_ok] at h
        cases b with
        | false =>
          rw [if_neg Bool.false_ne_true] at h
          exact Nat.le_succ_of_le (lcL_len h)
        | true =>
          rw [if_pos rfl] at h
          cases hf : f ρ2 with
          | ex x ρ3 => rw [hf] at h; cases h
          | bad => rw [hf] at h; cases h
          | ok s ρ3 =>
            rw [hf, R.bind_ok] at h
            cases hl : lcL tg c f own xs (wipeE ρ3 own) with
            | ex x ρ4 => rw [hl] at h; cases h
            | bad => rw [hl] at h; cases h
            | ok es ρ4 =>
              rw [hl] at h
              cases h
              exact Nat.succ_le_succ (lcL_len hl)
theorem LcOk.app {K : PySem.W.Frag} {FA : Nat → Option Addr} {Z Z' : Addr → Prop} {σw : St} {L : Addr} {Q : VK} {pre outs : List D} {H F : Hp} {r : R (List D)} (h : LcOk K FA Z Z' σw L Q pre H F (r.bind fun ds ρ => .ok (outs ++ ds) ρ)) : LcOk K FA Z Z' σw L Q (pre ++ outs) H F r := by
  cases r with
  | ok o ρ => exact fun H' F' acc e S h1 h2 => h H' F' acc e S h1 (by rw [List.append_assoc] at h2; exact h2)
  | ex x ρ => exact h
  | bad => exact h
theorem wipe_wipe {σ : St} {vs vs1 : List Nat} (h : ∀ i ∈ vs1, i ∈ vs) : L2.wipe (L2.wipe σ vs1) vs = L2.wipe σ vs :=
  wipe_same (wipe_length ..) fun j hj => by rw [wipe_get fun q => hj (h j q), wipe_get hj]
theorem lc2_rd {X : Cx} {W : WX} {Φ : PhiT} {FA CA : Nat → Option Addr} {wi wi1 : TI} {g g1 : TG} {tt tt1 : TT} {te : TE} {vs vs1 : List Nat} {tg' tg1' : Tg} {cit cit1 : Ir} {cc cc1 : Option T} {ce : E}
    (h1 : RdI X.K FA CA W wi (evIt Φ cit)) (h2 : RdG X.K FA (fun i => !vs.contains i) g tg') (h3 : RdT X.K FA CA noW tt (evOT Φ cc)) (h5 : RdI X.K FA CA noW wi1 (evIt Φ cit1)) (h6 : RdG X.K FA (fun i => !vs1.contains i) g1 tg1') (h7 : RdT X.K FA CA noW tt1 (evOT Φ cc1)) (h4 : RdE X.K FA CA noW te (evE Φ ce)) (hv : ∀ i ∈ vs1, i ∈ vs) :
    RdE X.K FA CA W (tLc2 wi g tt wi1 g1 tt1 te vs vs1) (evE Φ (.lc2 vs vs1 tg' cit cc tg1' cit1 cc1 ce)) := fun Z σ H ρ F Q S p => by
  rw [evE] at p
  refine h1 Z σ H ρ F _ S (p.bind.imp fun ds H1 ρ1 F1 e1 S1 k J hJ => ?_)
  unfold lcR2 at k
  dsimp only at k
  obtain ⟨F2, e2, S2⟩ := S1.fzs vs
  intro L nL
  have nF : F2 L = none := by
    cases q : F2 L with
    | none => rfl
    | some u => rw [S2.sub L u q] at nL; cases nL
  have nZ : ¬ Z L := fun z => by
    obtain ⟨_, o, e⟩ := S2.zf L z
    rw [nL] at e
    cases e
  obtain ⟨S3, e3, _, _, no⟩ := S2.grow1 (o := .lst []) nL
  have S4 := S3.wipe vs
  have zs : ∀ a, Z a → Z a ∨ a = L := fun a z => .inl z
  have addZ : ∀ {H' F' : Hp} {ρ' : Env} {σ' : St}, SR X.K FA Z σ' H' ρ' F' → F' L = none → (∃ o, H' L = some o) → (∀ i, ¬ owns σ' ρ' i L) → SR X.K FA (fun a => Z a ∨ a = L) σ' H' ρ' F' := fun {H' F' ρ' σ'} S f h o => by
    refine ⟨S.sub, fun a z => ?_, S.len, S.slot, fun i a q z => ?_, S.dis⟩
    · rcases z with z | rfl
      · exact S.zf a z
      · exact ⟨f, h⟩
    · rcases z with z | rfl
      · exact S.oz i a q z
      · exact o i q
  have noW4 : ∀ i, ¬ owns (L2.wipe σ vs) (wipeE (Rf.fzs ρ1 vs) vs) i L := fun i ⟨q1, d, q2⟩ => by
    obtain ⟨q3, q4⟩ := wipe_some q1
    have q5 : (Rf.fzs ρ1 vs)[i]? = some (some (.o d)) := by
      have : ∀ vs' : List Nat, (wipeE (Rf.fzs ρ1 vs) vs')[i]? = some (some (Sl.o d)) → (Rf.fzs ρ1 vs)[i]? = some (some (Sl.o d)) := by
        intro vs'
        induction vs' with
        | nil => exact id
        | cons v vs' ih =>
          intro q
          rw [wipeE] at q
          by_cases e : v = i
          · subst e
            rw [List.getElem?_set] at q
            simp at q
          · rw [List.getElem?_set_ne e] at q
            exact ih q
      exact this vs q2
    exact no i ⟨q3, _, q5⟩
  have S5 := addZ S4 nF ⟨_, upd_same⟩ noW4
  have start : LcOk X.K FA Z (fun a => Z a ∨ a = L) (L2.wipe σ vs) L Q [] (upd H1 L (.lst [])) F2 (lcL2 tg' (evOT Φ cc) (evIt Φ cit1) tg1' (evOT Φ cc1) (evE Φ ce) vs vs1 0 ds (wipeE (Rf.fzs ρ1 vs) vs)) := by
    cases hr : lcL2 tg' (evOT Φ cc) (evIt Φ cit1) tg1' (evOT Φ cc1) (evE Φ ce) vs vs1 0 ds (wipeE (Rf.fzs ρ1 vs) vs) with
    | bad =>
      rw [hr] at k
      exact k
    | ex x ρ' =>
      rw [hr] at k
      exact k
    | ok outs ρ' =>
      rw [hr] at k
      intro H' F' acc e' S' hL r
      have fin := SR.rest S2 S' zs e'.sub
      refine k H' F' (e2.trans (e3.trans e')) fin (.ref L) ⟨⟨L, acc, rfl, (S'.zf L (.inr rfl)).1, hL, r⟩, fun a ea _ => ?_⟩
      cases ea
      refine ⟨nZ, fun i ⟨q1, d, q2⟩ => ?_⟩
      rcases restE_in q2 with ⟨q3, q4⟩ | ⟨q3, q4⟩
      · exact (fzs_no q4).1 q3
      · exact S'.oz i L ⟨by rw [wipe_get q3]; exact q1, d, q4⟩ (.inr rfl)
  let St (i n : Nat) (H2 : Hp) : Prop := ∃ ρ2 F9 acc pre, Ext Z F2 (upd H1 L (.lst [])) F9 H2 ∧ SR X.K FA (fun a => Z a ∨ a = L) (L2.wipe σ vs) H2 ρ2 F9 ∧ H2 L = some (.lst acc) ∧ acc.length ≤ n ∧ Rps X.K FA F9 acc pre ∧
    LcOk X.K FA Z (fun a => Z a ∨ a = L) (L2.wipe σ vs) L Q pre H2 F9 (lcL2 tg' (evOT Φ cc) (evIt Φ cit1) tg1' (evOT Φ cc1) (evE Φ ce) vs vs1 n (ds.drop i) ρ2)
  refine ⟨fun i m H2 => m = ds.length - i ∧ i ≤ ds.length ∧ ∃ n, St i n H2, ⟨ds.length, rfl, Nat.zero_le _, 0, _, F2, [], [], .refl, S5, upd_same, Nat.le_refl _, .nil, start⟩, ?_⟩
  rintro i m H2 ⟨rfl, hi, n, ρ2, F3, acc, pre, x3, T3, hL, hacc, racc, p2⟩
  obtain ⟨j1, j2⟩ := hJ i H2 F3 (e2.sub.trans x3.sub) T3.sub
  by_cases hlt : i < ds.length
  · have hd : ds[i]? = some ds[i] := List.getElem?_eq_getElem hlt
    obtain ⟨go, yl⟩ := j2 _ hd
    rw [List.drop_eq_getElem_cons hlt, lcL2] at p2
    cases ha : asg tg' (.v ds[i]) ρ2 with
    | none =>
      rw [ha] at p2
      exact p2.elim
    | some ρ3 =>
      rw [ha] at p2
      dsimp only at p2
      refine .inr ⟨go, fun H4 => ∃ n, St (i + 1) n H4, fun H4 ⟨n, h⟩ => ⟨ds.length - (i + 1), by omega, rfl, hlt, n, h⟩, fun x H3 y => ?_⟩
      have turn : ∀ F4, Ext (fun a => Z a ∨ a = L) F3 H2 F4 H3 → SR X.K FA (fun a => Z a ∨ a = L) (L2.wipe σ vs) H3 ρ2 F4 → Rp X.K FA F4 x ds[i] → g x (L2.wipe σ vs) H3 fun σ2 H2 => L2.wipe σ2 vs = L2.wipe σ vs ∧ tt σ2 H2 fun b H3 =>
          if b = true then wi1 σ2 H3 fun J1 H4 => ∃ W1 : Nat → Nat → Hp → Prop, (∃ m, W1 0 m H4) ∧ ∀ j k H, W1 j k H →
            (J1.stop j H ∧ ∃ n, St (i + 1) n H) ∨ (J1.go j H ∧ ∃ Nx1 : Hp → Prop, (∀ H', Nx1 H' → ∃ k', k' < k ∧ W1 (j + 1) k' H') ∧ ∀ x H', J1.yld j H x H' → g1 x (L2.wipe σ2 vs1) H' fun σ3 H5 => L2.wipe σ3 vs1 = L2.wipe σ2 vs1 ∧ tt1 σ3 H5 fun b H6 =>
              if b = true then te σ3 H6 fun y H7 => ∃ acc, H7 L = some (.lst acc) ∧ acc.length < sizeLine ∧ Nx1 (upd H7 L (.lst (acc ++ [y]))) else Nx1 H6)
          else ∃ n, St (i + 1) n H3 := fun F4 e4 T4 r4 => by
        have out : ∀ {F H F' H' : Hp}, Ext (fun a => Z a ∨ a = L) F H F' H' → Ext Z F H F' H' := fun {F H F' H'} e => ⟨e.sub, fun a z => e.keep a (.inl z)⟩
        refine h2 _ (L2.wipe σ vs) H3 ρ2 F4 x (.v ds[i]) ρ3 _ T4 (.v r4) ha fun σ5 H5 F5 e5 T5 f5 => ?_
        have ew : L2.wipe σ5 vs = L2.wipe σ vs := by
          refine wipe_same ?_ fun j hj => f5 j (by simp [hj])
          have l1 := T5.len
          have l2 := T4.len
          rw [wipe_length] at l2
          have l3 : ρ3.length = ρ2.length := by
            exact asg_len _ _ _ _ ha
          omega
        refine ⟨ew, ?_⟩
        have p3 := LcOk.shift p2 (out (e4.trans e5))
        refine h3 _ σ5 H5 ρ3 F5 _ T5 ((LcOk.bind zs p3).imp fun b H6 ρ6 F6 e6 T6 k6 => ?_)
        have wp : ∀ {H F : Hp} {ρ : Env}, SR X.K FA (fun a => Z a ∨ a = L) σ5 H ρ F → SR X.K FA (fun a => Z a ∨ a = L) (L2.wipe σ vs) H (wipeE ρ vs) F := fun {H F ρ} T => by
          have := T.wipe vs
          rw [ew] at this
          exact this
        have keepL : ∀ {F H F' H' : Hp} {u : HO}, Ext (fun a => Z a ∨ a = L) F H F' H' → H L = some u → H' L = some u := fun {F H F' H' u} e h => (e.keep L (.inr rfl)).trans h
        cases b with
        | false =>
          rw [if_neg Bool.false_ne_true] at k6 ⊢
          have e7 := e4.trans (e5.trans e6)
          exact ⟨n, _, F6, acc, pre, x3.trans (out e7), wp T6, keepL e7 hL, hacc, racc.mono e7.sub, k6⟩
        | true =>
          rw [if_pos rfl] at k6 ⊢
          refine h5 _ σ5 H6 ρ6 F6 _ T6 ((LcOk.bind zs k6).imp fun ys H7 ρ7 F7 e7 T7 k7 J1 hJ1 => ?_)
          have e8 := e4.trans (e5.trans (e6.trans e7))
          by_cases hz : n + ys.length ≤ SZ
          · rw [if_pos hz] at k7
            refine lc_loop (Q := fun _ H => ∃ n, St (i + 1) n H) h6 h7 h4 (σ := σ5) (pre0 := pre) (n := n) nZ hJ1 (T7.wipe vs1) (keepL e8 hL) hacc hz (racc.mono e8.sub) ?_
            cases hr : lcL tg1' (evOT Φ cc1) (evE Φ ce) vs1 ys (wipeE ρ7 vs1) with
            | bad => rw [hr] at k7; exact k7
            | ex x ρ' => rw [hr] at k7; exact k7
            | ok outs ρ8 =>
              rw [hr, R.bind_ok] at k7
              intro H8 F8 acc8 e9 T8 hL8 r8
              have T9 := T8.wipe vs
              rw [wipe_wipe hv, ew] at T9
              refine ⟨n + ys.length, _, F8, acc8, pre ++ outs, x3.trans ((out e8).trans e9), T9, hL8, ?_, r8, LcOk.app (k7.shift e9)⟩
              have q1 := r8.length
              have q2 := racc.length
              have q3 := lcL_len hr
              rw [List.length_append] at q1
              omega
          · rw [if_neg hz] at k7
            exact k7.elim
      rcases yl x H3 y with ⟨rfl, r⟩ | ⟨pp, o, np, rfl, r⟩
      · exact turn F3 .refl T3 r
      · obtain ⟨T4, e4⟩ := T3.grow (o := o) np
        exact turn _ e4 T4 r
  · have e : i = ds.length := by omega
    subst e
    rw [List.drop_length, lcL2] at p2
    exact .inl ⟨j1 (Nat.le_refl _), p2 H2 F3 acc .refl T3 hL (by rw [List.append_nil]; exact racc)⟩
/-- what a comprehension of two clauses is made of -/
structure LcParts2 (C : CC) (elt tg iter : Expr) (ifs : List Expr) (tg1 iter1 : Expr) (ifs1 : List Expr) (scope : Scope) (own : List (Str × Nat)) (vs1 : List Nat) (tg' : Tg) (cit : Ir) (cc : Option T) (tg1' : Tg) (cit1 : Ir) (cc1 : Option T) (ce : E) : Prop where
  it : SIt C tg iter cit
  blk : blkC C.N C.sc scope own = true
  g : SG (blkCC C scope (own.map (·.2))) tg tg'
  t : SOT (blkCC C scope (own.map (·.2))) ifs cc
  it1 : SIt (blkCC C scope (own.map (·.2))) tg1 iter1 cit1
  g1 : SG (blkCC C scope vs1) tg1 tg1'
  t1 : SOT (blkCC C scope (own.map (·.2))) ifs1 cc1
  e : SE (blkCC C scope (own.map (·.2))) elt ce
  hv : ∀ i ∈ vs1, i ∈ own.map (·.2)
  pl : plainE iter = true
  pl1 : plainE iter1 = true
theorem LcParts2.rd {ifs : List Expr} {tg1 iter1 : Expr} {ifs1 : List Expr} {scope : Scope} {own : List (Str × Nat)} {vs1 : List Nat} {tg' tg1' : Tg} {cit cit1 : Ir} {cc cc1 : Option T} {ce : E} (P : LcParts2 C elt tg iter ifs tg1 iter1 ifs1 scope own vs1 tg' cit cc tg1' cit1 cc1 ce) {X : Cx} {W : WX} {Φ : PhiT} {FA CA : Nat → Option Addr} (O : Ok C X W Φ FA CA) :
    ∃ wi g tt wi1 g1 tt1 te, PI X tg iter wi ∧ BlkOk X.N X.env.scope scope own ∧
      (∀ (s : Shared) (H : Hp) (C : Addr) (cl : List (Str × Addr)) (fp : List Addr), PG (X.blk s H scope (compEnvC scope cl C X.env) fp) tg g) ∧
      (∀ (s : Shared) (H : Hp) (C : Addr) (cl : List (Str × Addr)) (fp : List Addr), PTs (X.blk s H scope (compEnvC scope cl C X.env) fp) ifs tt) ∧
      (∀ (s : Shared) (H : Hp) (C : Addr) (cl : List (Str × Addr)) (fp : List Addr), PI (X.blk s H scope (compEnvC scope cl C X.env) fp) tg1 iter1 wi1) ∧
      (∀ (s : Shared) (H : Hp) (C : Addr) (cl : List (Str × Addr)) (fp : List Addr), PG (X.blk s H scope (compEnvC scope cl C X.env) fp) tg1 g1) ∧
      (∀ (s : Shared) (H : Hp) (C : Addr) (cl : List (Str × Addr)) (fp : List Addr), PTs (X.blk s H scope (compEnvC scope cl C X.env) fp) ifs1 tt1) ∧
      (∀ (s : Shared) (H : Hp) (C : Addr) (cl : List (Str × Addr)) (fp : List Addr), PE (X.blk s H scope (compEnvC scope cl C X.env) fp) elt te) ∧
      RdE X.K FA CA W (tLc2 wi g tt wi1 g1 tt1 te (own.map (·.2)) vs1) (evE Φ (.lc2 (own.map (·.2)) vs1 tg' cit cc tg1' cit1 cc1 ce)) := by
  obtain ⟨wi, w1, w2⟩ := P.it X W Φ FA CA O
  refine ⟨wi, fun v σ H Q => ∀ (s : Shared) (H0 : Hp) (A : Addr) (cl : List (Str × Addr)) (fp : List Addr), ∃ g, PG (X.blk s H0 scope (compEnvC scope cl A X.env) fp) tg g ∧ g v σ H Q,
    fun σ H Q => ∀ (s : Shared) (H0 : Hp) (A : Addr) (cl : List (Str × Addr)) (fp : List Addr), ∃ t, PTs (X.blk s H0 scope (compEnvC scope cl A X.env) fp) ifs t ∧ t σ H Q,
    fun σ H Q => ∀ (s : Shared) (H0 : Hp) (A : Addr) (cl : List (Str × Addr)) (fp : List Addr), ∃ t, PI (X.blk s H0 scope (compEnvC scope cl A X.env) fp) tg1 iter1 t ∧ t σ H Q,
    fun v σ H Q => ∀ (s : Shared) (H0 : Hp) (A : Addr) (cl : List (Str × Addr)) (fp : List Addr), ∃ g, PG (X.blk s H0 scope (compEnvC scope cl A X.env) fp) tg1 g ∧ g v σ H Q,
    fun σ H Q => ∀ (s : Shared) (H0 : Hp) (A : Addr) (cl : List (Str × Addr)) (fp : List Addr), ∃ t, PTs (X.blk s H0 scope (compEnvC scope cl A X.env) fp) ifs1 t ∧ t σ H Q,
    fun σ H Q => ∀ (s : Shared) (H0 : Hp) (A : Addr) (cl : List (Str × Addr)) (fp : List Addr), ∃ t, PE (X.blk s H0 scope (compEnvC scope cl A X.env) fp) elt t ∧ t σ H Q, w1, ?_, ?_, ?_, ?_, ?_, ?_, ?_, ?_⟩
  · rw [O.N, O.sc]
    exact blkOk_by P.blk
  · exact fun s H A cl fp => ⟨fun pins s' σ H' v u Q I r q => by
      obtain ⟨g, hg, q⟩ := q s H A cl fp
      exact hg.run pins s' σ H' v u Q I r q⟩
  · exact fun s H A cl fp => ⟨fun pins s' σ H' Q I q => by
      obtain ⟨t, ht, q⟩ := q s H A cl fp
      exact ht.run pins s' σ H' Q I q⟩
  · exact fun s H A cl fp => ⟨fun pins s' σ H' Q I q => by
      obtain ⟨t, ht, q⟩ := q s H A cl fp
      exact ht.run pins s' σ H' Q I q⟩
  · exact fun s H A cl fp => ⟨fun pins s' σ H' v u Q I r q => by
      obtain ⟨g, hg, q⟩ := q s H A cl fp
      exact hg.run pins s' σ H' v u Q I r q⟩
  · exact fun s H A cl fp => ⟨fun pins s' σ H' Q I q => by
      obtain ⟨t, ht, q⟩ := q s H A cl fp
      exact ht.run pins s' σ H' Q I q⟩
  · exact fun s H A cl fp => ⟨fun pins s' σ H' Q I q => by
      obtain ⟨t, ht, q⟩ := q s H A cl fp
      exact ht.run pins s' σ H' Q I q⟩
  · refine lc2_rd w2 (fun Z σ H ρ F x s ρ' Q S r e q s0 H0 A cl fp => ?_) (fun Z σ H ρ F Q S p s0 H0 A cl fp => ?_) (fun Z σ H ρ F Q S p s0 H0 A cl fp => ?_) (fun Z σ H ρ F x s ρ' Q S r e q s0 H0 A cl fp => ?_) (fun Z σ H ρ F Q S p s0 H0 A cl fp => ?_) (fun Z σ H ρ F Q S p s0 H0 A cl fp => ?_) P.hv
    · obtain ⟨g, g1, g2⟩ := P.g _ _ _ _ _ (O.blk scope (own.map (·.2)) s0 H0 A cl fp)
      exact ⟨g, g1, g2 Z σ H ρ F x s ρ' Q S r e q⟩
    · obtain ⟨g, g1, g2⟩ := P.t _ _ _ _ _ (O.blk scope (own.map (·.2)) s0 H0 A cl fp)
      exact ⟨g, g1, g2 Z σ H ρ F Q S p⟩
    · obtain ⟨g, g1, g2⟩ := P.it1 _ _ _ _ _ (O.blk scope (own.map (·.2)) s0 H0 A cl fp)
      exact ⟨g, g1, g2 Z σ H ρ F Q S p⟩
    · obtain ⟨g, g1, g2⟩ := P.g1 _ _ _ _ _ (O.blk scope vs1 s0 H0 A cl fp)
      exact ⟨g, g1, g2 Z σ H ρ F x s ρ' Q S r e q⟩
    · obtain ⟨g, g1, g2⟩ := P.t1 _ _ _ _ _ (O.blk scope (own.map (·.2)) s0 H0 A cl fp)
      exact ⟨g, g1, g2 Z σ H ρ F Q S p⟩
    · obtain ⟨g, g1, g2⟩ := P.e _ _ _ _ _ (O.blk scope (own.map (·.2)) s0 H0 A cl fp)
      exact ⟨g, g1, g2 Z σ H ρ F Q S p⟩
section
variable {ifs : List Expr} {tg1 iter1 : Expr} {ifs1 : List Expr} {scope : Scope} {own : List (Str × Nat)} {vs1 : List Nat} {tg' tg1' : Tg} {cit cit1 : Ir} {cc cc1 : Option T} {ce : E}
theorem s_lc2 (P : LcParts2 C elt tg iter ifs tg1 iter1 ifs1 scope own vs1 tg' cit cc tg1' cit1 cc1 ce) : SE C (.ListComp elt [⟨tg, iter, ifs, 0⟩, ⟨tg1, iter1, ifs1, 0⟩] scope pos) (.lc2 (own.map (·.2)) vs1 tg' cit cc tg1' cit1 cc1 ce) := fun X W Φ FA CA O => by
  obtain ⟨wi, g, tt, wi1, g1, tt1, te, w1, ok, hg, ht, hi1, hg1, ht1, he, rd⟩ := P.rd O
  exact ⟨_, pe_lc2 O.calm (by rw [O.N]; exact O.nd) w1 ok P.hv hg ht hi1 hg1 ht1 he (plain_fold P.pl X.env) (plain_fold P.pl1), rd⟩
theorem st_asgLc2 {y : Str} {py spos : Pos} {i : Nat} (P : LcParts2 C elt tg iter ifs tg1 iter1 ifs1 scope own vs1 tg' cit cc tg1' cit1 cc1 ce) (hy : locB C y i = true) (hs : swB C scope y py pos = true) :
    SS C (.Assign [.Name y py] (.ListComp elt [⟨tg, iter, ifs, 0⟩, ⟨tg1, iter1, ifs1, 0⟩] scope pos) spos) (.asg (.nm i) (.lc2 (own.map (·.2)) vs1 tg' cit cc tg1' cit1 cc1 ce)) := fun X W Φ FA CA O => by
  obtain ⟨wi, g, tt, wi1, g1, tt1, te, w1, ok, hg, ht, hi1, hg1, ht1, he, rd⟩ := P.rd O
  obtain ⟨h1, h2, h3, h4⟩ := loc_of hy
  unfold swB at hs
  simp only [Bool.and_eq_true, decide_eq_true_eq, Bool.not_eq_true'] at hs
  obtain ⟨⟨⟨hk, hl⟩, hp⟩, ha⟩ := hs
  have hl := kind_of hl
  refine ⟨_, ps_setLc2 O.calm (by rw [O.N]; exact O.nd) (by rw [O.N]; exact h1) (by rw [O.sc]; exact hl) (sw_true (by rw [O.sc]; exact hk) (by rw [O.sc]; exact hl) hp ha) w1 ok P.hv hg ht hi1 hg1 ht1 he (plain_fold P.pl X.env) (plain_fold P.pl1), asg_rd rd ?_⟩
  exact fun Z σ H ρ F x s ρ' Q S r e q => by
    cases e
    exact q _ H F .refl (S.store r) (.set h4)
end
end
end Rf

set_option maxHeartbeats 1000000
/-! Rf10: code from the text, with its proof. -/
namespace Rf
open PySem PySem.Spec L2

/-- what is made of a text -/
structure Rec (C : CC) where
  e : (x : Expr) → Option {c : E // SE C x c}
  t : (x : Expr) → Option {c : T // ST C x c}
  g : (x : Expr) → Option {c : Tg // SG C x c}
  i : (tg x : Expr) → Option {c : Ir // SIt C tg x c}
  s : (x : Stmt) → Option {c : S // SS C x c}

/-- a condition that is looked at -/
def ifB {α : Type} (b : Bool) (f : b = true → Option α) : Option α :=
  if h : b = true then f h else none
def ixOf (N : List Str) (x : Str) : Option Nat := N.findIdx? fun y => y == x

theorem star_any {es : List Expr} (h : es.all plainE = true) (pos : Pos) (env : PySem.Env) : (backTo pos (starEach es env)).any (·.1) = false := by
  have key : ∀ es : List Expr, es.all plainE = true → (starEach es env).any (·.1) = false := fun es => by
    induction es with
    | nil => intro _; rfl
    | cons e es ih =>
      intro h
      rw [List.all_cons, Bool.and_eq_true] at h
      rw [plain_star h.1, List.any_cons, ih h.2]
      rfl
  unfold backTo
  rw [List.any_map]
  exact key es h
section
variable {C : CC} (r : Rec C)
/-- an operand -/
def cP (x : Expr) : Option {c : P // SP C x c ∧ plainE x = true} :=
  ifB (plainE x) fun hp =>
  match x with
  | .Name n pos =>
    match ixOf C.N n with
    | some i => ifB (visB C n i) fun h => some ⟨.pk i, s_pk h, hp⟩
    | none => (r.e (.Name n pos)).map fun ⟨c, h⟩ => ⟨.val c, s_val h, hp⟩
  | x => (r.e x).map fun ⟨c, h⟩ => ⟨.val c, s_val h, hp⟩
/-- a value -/
def cV (x : Expr) : Option {c : E // SE C x c ∧ plainE x = true} :=
  ifB (plainE x) fun hp => (r.e x).map fun ⟨c, h⟩ => ⟨c, h, hp⟩
def cEs : (xs : List Expr) → Option {c : Es // SEs C xs c}
  | [] => some ⟨.nil, es_nil⟩
  | x :: xs => (cV r x).bind fun ⟨c, h, hp⟩ => (cEs xs).map fun ⟨cs, hs⟩ => ⟨.cons c cs, es_cons h hs hp⟩
def cA : (xs : List Expr) → Option {c : A // SA C xs c}
  | [] => some ⟨.nil, a_nil⟩
  | .Name n pos :: xs =>
    (cA xs).bind fun ⟨cs, hs⟩ =>
    match ixOf C.N n with
    | some i => ifB (visB C n i) fun h => some ⟨.ref i cs, a_ref h hs⟩
    | none => (r.e (.Name n pos)).map fun ⟨c, h⟩ => ⟨.val c cs, a_val h hs rfl⟩
  | x :: xs => (cV r x).bind fun ⟨c, h, hp⟩ => (cA xs).map fun ⟨cs, hs⟩ => ⟨.val c cs, a_val h hs hp⟩
def cAnd (pos : Pos) : (xs : List Expr) → Option {c : T // STw C (.BoolOp .And xs pos) c}
  | [] => none
  | [a] => (r.t a).map fun ⟨c, h⟩ => ⟨c, tw_one h⟩
  | a :: b :: xs => (r.t a).bind fun ⟨c, h⟩ => (cAnd pos (b :: xs)).map fun ⟨d, h2⟩ => ⟨.and2 c d, tw_and h h2⟩
def cOr (pos : Pos) : (xs : List Expr) → Option {c : T // STw C (.BoolOp .Or xs pos) c}
  | [] => none
  | [a] => (r.t a).map fun ⟨c, h⟩ => ⟨c, tw_one h⟩
  | a :: b :: xs => (r.t a).bind fun ⟨c, h⟩ => (cOr pos (b :: xs)).map fun ⟨d, h2⟩ => ⟨.or2 c d, tw_or h h2⟩
def vAnd (pos : Pos) : (xs : List Expr) → Option {c : E // SE C (.BoolOp .And xs pos) c}
  | [] => none
  | [a] => (r.e a).map fun ⟨c, h⟩ => ⟨c, s_one h⟩
  | a :: b :: xs => (r.e a).bind fun ⟨c, h⟩ => (vAnd pos (b :: xs)).map fun ⟨d, h2⟩ => ⟨.and2 c d, s_and h h2⟩
def vOr (pos : Pos) : (xs : List Expr) → Option {c : E // SE C (.BoolOp .Or xs pos) c}
  | [] => none
  | [a] => (r.e a).map fun ⟨c, h⟩ => ⟨c, s_one h⟩
  | a :: b :: xs => (r.e a).bind fun ⟨c, h⟩ => (vOr pos (b :: xs)).map fun ⟨d, h2⟩ => ⟨.or2 c d, s_or h h2⟩
def cOp (op : Operator) : Option {b : Bop // ∀ X FA, OpD X FA (binaryOp op) (binD b)} :=
  match op with
  | .Add => some ⟨.add, fun _ _ => opD_add⟩
  | .Sub => some ⟨.sub, fun _ _ => opD_sub⟩
  | .Mult => some ⟨.mul, fun _ _ => opD_mul⟩
  | .FloorDiv => some ⟨.fdiv, fun _ _ => opD_fdiv⟩
  | .Mod => some ⟨.mod, fun _ _ => opD_mod⟩
  | .Pow => some ⟨.pow, fun _ _ => opD_pow⟩
  | .LShift => some ⟨.shl, fun _ _ => opD_shl⟩
  | .RShift => some ⟨.shr, fun _ _ => opD_shr⟩
  | _ => none
def cCmp (op : CmpOp) : Option {b : Cop // cmpOk op b} :=
  match op with
  | .Eq => some ⟨.eq, ok_eq⟩
  | .NotEq => some ⟨.ne, ok_ne⟩
  | .Lt => some ⟨.lt, ok_lt⟩
  | .LtE => some ⟨.le, ok_le⟩
  | .Gt => some ⟨.gt, ok_gt⟩
  | .GtE => some ⟨.ge, ok_ge⟩
  | .In => some ⟨.mem, ok_mem⟩
  | .NotIn => some ⟨.nmem, ok_nmem⟩
  | .Is => some ⟨.is, ok_is⟩
  | .IsNot => some ⟨.isnt, ok_isnt⟩
def cO (x : Option Expr) : Option {c : Option E // SO C x c} :=
  match x with
  | none => some ⟨none, o_none⟩
  | some x => (r.e x).map fun ⟨c, h⟩ => ⟨some c, o_some h⟩
/-- a built-in function of one value -/
def mkBi (x : Str) (nm id : String) (b : Bi) (hb : ∀ X W Φ FA CA, Ok C X W Φ FA CA → BiD X FA (.builtin id) (biD b)) (a : Expr) (p pos : Pos) (hx : x = Str.ofString nm) : Option {c : E // SE C (.Call (.Name x p) [a] [] pos) c} :=
  ifB (bltB C nm (.builtin id)) fun h => (cP r a).map fun ⟨c, hc, hp⟩ => ⟨.bi b c, by
    subst hx
    obtain ⟨h1, h2, h3, h4, h5⟩ := bltB_of h
    exact s_bi hb h1 h2 h3 h4 h5 hc hp⟩
def mkTy (x : Str) (nm : String) (b : Bi) (hb : ∀ X W Φ FA CA, Ok C X W Φ FA CA → BiD X FA (.type nm) (biD b)) (a : Expr) (p pos : Pos) (hx : x = Str.ofString nm) : Option {c : E // SE C (.Call (.Name x p) [a] [] pos) c} :=
  ifB (bltB C nm (.type nm)) fun h => (cP r a).map fun ⟨c, hc, hp⟩ => ⟨.bi b c, by
    subst hx
    obtain ⟨h1, h2, h3, h4, h5⟩ := bltB_of h
    exact s_ty hb h1 h2 h3 h4 h5 hc hp⟩
def cBi (x : Str) (a : Expr) (p pos : Pos) : Option {c : E // SE C (.Call (.Name x p) [a] [] pos) c} :=
  if h : x = Str.ofString "len" then mkBi r x "len" "len" .len (fun _ _ _ _ _ _ => bi_len) a p pos h
  else if h : x = Str.ofString "abs" then mkBi r x "abs" "abs" .abs (fun _ _ _ _ _ _ => bi_abs) a p pos h
  else if h : x = Str.ofString "int" then mkTy r x "int" .int (fun _ _ _ _ _ _ => bi_int) a p pos h
  else if h : x = Str.ofString "str" then mkTy r x "str" .str (fun _ _ _ _ _ _ => bi_str) a p pos h
  else if h : x = Str.ofString "tuple" then mkTy r x "tuple" .tuple (fun _ _ _ _ _ _ => bi_tuple) a p pos h
  else if h : x = Str.ofString "list" then mkTy r x "list" .list (fun _ _ _ _ _ _ => bi_list) a p pos h
  else if h : x = Str.ofString "sum" then mkBi r x "sum" "sum" .sum (fun _ _ _ _ _ O => bi_sum O.calm) a p pos h
  else if h : x = Str.ofString "all" then mkBi r x "all" "all" .all (fun _ _ _ _ _ O => bi_all O.calm) a p pos h
  else if h : x = Str.ofString "any" then mkBi r x "any" "any" .any (fun _ _ _ _ _ O => bi_any O.calm) a p pos h
  else if h : x = Str.ofString "min" then mkBi r x "min" "min" .min (fun _ _ _ _ _ O => bi_min O.calm O.units) a p pos h
  else if h : x = Str.ofString "max" then mkBi r x "max" "max" .max (fun _ _ _ _ _ O => bi_max O.calm O.units) a p pos h
  else if h : x = Str.ofString "sorted" then mkBi r x "sorted" "sorted" .sorted (fun _ _ _ _ _ O => bi_sorted O.units) a p pos h
  else none
def kd1 (t : Str) : Option {k : Kd × String // kdTy k.1 = [k.2] ∧ t = Str.ofString k.2} :=
  if h : t = Str.ofString "int" then some ⟨(.int, "int"), rfl, h⟩
  else if h : t = Str.ofString "bool" then some ⟨(.bool, "bool"), rfl, h⟩
  else if h : t = Str.ofString "tuple" then some ⟨(.tup, "tuple"), rfl, h⟩
  else if h : t = Str.ofString "list" then some ⟨(.lst, "list"), rfl, h⟩
  else if h : t = Str.ofString "str" then some ⟨(.str, "str"), rfl, h⟩
  else none
def kd2 (t u : Str) : Option {k : Kd × String × String // kdTy k.1 = [k.2.1, k.2.2] ∧ t = Str.ofString k.2.1 ∧ u = Str.ofString k.2.2} :=
  if h : t = Str.ofString "list" ∧ u = Str.ofString "tuple" then some ⟨(.seq, "list", "tuple"), rfl, h.1, h.2⟩
  else if h : t = Str.ofString "bool" ∧ u = Str.ofString "str" then some ⟨(.bs, "bool", "str"), rfl, h.1, h.2⟩
  else none
/-- isinstance -/
def cIsa (x : Str) (a b : Expr) (p pos : Pos) : Option {c : E // SE C (.Call (.Name x p) [a, b] [] pos) c} :=
  if hx : x = Str.ofString "isinstance" then
    ifB (bltB C "isinstance" (.builtin "isinstance")) fun hi =>
    match b with
    | .Name t p2 => (kd1 t).bind fun ⟨k, h1, h2⟩ => ifB (tyB C k.2) fun ht => (cP r a).map fun ⟨c, hc, hp⟩ => ⟨.isk k.1 c, by subst hx h2; exact s_isk1 hi ht h1 hc hp⟩
    | .Tuple [.Name t p2, .Name u p3] j p4 => (kd2 t u).bind fun ⟨k, h1, h2, h3⟩ => ifB (tyB C k.2.1) fun ht => ifB (tyB C k.2.2) fun hu => (cP r a).map fun ⟨c, hc, hp⟩ => ⟨.isk k.1 c, by subst hx h2 h3; exact s_isk2 hi ht hu h1 hc hp⟩
    | _ => none
  else if hx : x = Str.ofString "max" then
    ifB (bltB C "max" (.builtin "max")) fun hi => (cP r a).bind fun ⟨ca, ha, hp⟩ => (cP r b).map fun ⟨cb, hb, hp2⟩ => ⟨.bi2 .max2 ca cb, by subst hx; exact s_bi2 max2_ok max2_D hi ha hb hp hp2⟩
  else if hx : x = Str.ofString "min" then
    ifB (bltB C "min" (.builtin "min")) fun hi => (cP r a).bind fun ⟨ca, ha, hp⟩ => (cP r b).map fun ⟨cb, hb, hp2⟩ => ⟨.bi2 .min2 ca cb, by subst hx; exact s_bi2 min2_ok min2_D hi ha hb hp hp2⟩
  else none
/-- a call of a def -/
def cFn (x : Str) (args : List Expr) (p pos : Pos) : Option {c : E // SE C (.Call (.Name x p) args [] pos) c} :=
  match hg : C.gi x with
  | some (.fn f ps dfl _) =>
    match args with
    | [] => none
    | a :: es =>
      ifB (kindIs C.sc x .globalImplicit && (!(x == ("__debug__" : Str)) && (plainE a && (es.all plainE && decide ((es.length + 1 + dfl.length) - ps.length ≤ dfl.length))))) fun hb =>
      (cA r (a :: es)).map fun ⟨cs, hs⟩ => ⟨.call f cs (dfl.drop ((es.length + 1 + dfl.length) - ps.length)), by
        simp only [Bool.and_eq_true, Bool.not_eq_true', decide_eq_true_eq] at hb
        obtain ⟨h1, h2, h3, h4, h5⟩ := hb
        exact s_call h1 hg h2 h5 hs h3 fun env => star_any h4 pos env⟩
  | _ => none
/-- a call of a def that a name of the frame holds -/
def cCv (x : Str) (i : Nat) (args : List Expr) (p pos : Pos) : Option {c : E // SE C (.Call (.Name x p) args [] pos) c} :=
  match args with
  | [] => none
  | a :: es =>
    ifB (visB C x i && (plainE a && es.all plainE)) fun hb =>
    (cA r (a :: es)).map fun ⟨cs, hs⟩ => ⟨.callv i cs, by
      simp only [Bool.and_eq_true] at hb
      exact s_callv hb.1 hs hb.2.1 fun env => star_any hb.2.2 pos env⟩
/-- the values of keywords -/
def cK : (xs : List Keyword) → Option {c : A // SK C xs c}
  | [] => some ⟨.nil, k_nil⟩
  | ⟨nm, .Name n pos, kp⟩ :: xs =>
    (cK xs).bind fun ⟨cs, hs⟩ =>
    match ixOf C.N n with
    | some i => ifB (visB C n i) fun h => some ⟨.ref i cs, k_ref h hs⟩
    | none => (r.e (.Name n pos)).map fun ⟨c, h⟩ => ⟨.val c cs, k_val h hs⟩
  | ⟨nm, x, kp⟩ :: xs => (r.e x).bind fun ⟨c, h⟩ => (cK xs).map fun ⟨cs, hs⟩ => ⟨.val c cs, k_val h hs⟩
/-- the names of keywords, if all have one -/
def kwN : List Keyword → Option (List Str)
  | [] => some []
  | ⟨some nm, _, _⟩ :: xs => (kwN xs).map fun l => nm :: l
  | _ => none
theorem kwN_ok : ∀ {xs : List Keyword} {l : List Str}, kwN xs = some l → ∀ (pos : Pos) (env : PySem.Env), (backToKw pos (keywordEach xs env)).all (·.1.isSome) = true ∧ (backToKw pos (keywordEach xs env)).filterMap (·.1) = l ∧ (backToKw pos (keywordEach xs env)).any (·.1.isNone) = false
  | [], l, h, pos, env => by
    cases h
    exact ⟨rfl, rfl, rfl⟩
  | ⟨some nm, e, kp⟩ :: xs, l, h, pos, env => by
    obtain ⟨l', h1, rfl⟩ := Option.map_eq_some_iff.mp (show ((kwN xs).map fun l => nm :: l) = some l from h)
    obtain ⟨h2, h3, h4⟩ := kwN_ok h1 pos env
    unfold backToKw at h2 h3 h4 ⊢
    refine ⟨?_, ?_, ?_⟩
    · rw [keywordEach, List.map_cons, List.all_cons, h2]; rfl
    · rw [keywordEach, List.map_cons, List.filterMap_cons, h3]
    · rw [keywordEach, List.map_cons, List.any_cons, h4]; rfl
  | ⟨none, e, kp⟩ :: xs, l, h, pos, env => by cases h
/-- a call with keywords -/
def cFnK (x : Str) (args : List Expr) (kws : List Keyword) (p pos : Pos) : Option {c : E // SE C (.Call (.Name x p) args kws pos) c} :=
  match hg : C.gi x with
  | some (.fn f ps dfl ks) =>
    match hw : kwN kws with
    | none => none
    | some l =>
    match args with
    | [] =>
      (cK r kws).bind fun ⟨ck, hk⟩ =>
      ifB (kindIs C.sc x .globalImplicit && (!(x == ("__debug__" : Str)) && (ks.contains 0 && (decide (l = ps.drop 0) && decide (0 + ck.len = ps.length))))) fun hb =>
      some ⟨.call f ck [], by
        simp only [Bool.and_eq_true, Bool.not_eq_true', decide_eq_true_eq, List.contains_iff_mem] at hb
        obtain ⟨h1, h2, h3, h4, h5⟩ := hb
        subst h4
        exact s_callK0 h1 hg h2 h3 hk h5 (fun env => (kwN_ok hw pos env).1) (fun env => (kwN_ok hw pos env).2.1) fun env => by rw [(kwN_ok hw pos env).2.2]; rfl⟩
    | a :: es =>
      (cK r kws).bind fun ⟨ck, hk⟩ => (cA r (a :: es)).bind fun ⟨cs, hs⟩ =>
      ifB (kindIs C.sc x .globalImplicit && (!(x == ("__debug__" : Str)) && (plainE a && (es.all plainE && (ks.contains cs.len && (decide (l = ps.drop cs.len) && decide (cs.len + ck.len = ps.length))))))) fun hb =>
      some ⟨.call f (cs.app ck) [], by
        simp only [Bool.and_eq_true, Bool.not_eq_true', decide_eq_true_eq, List.contains_iff_mem] at hb
        obtain ⟨h1, h2, h2a, h2b, h3, h4, h5⟩ := hb
        subst h4
        exact s_callK h1 hg h2 h3 hs hk rfl h5 h2a (fun env => (kwN_ok hw pos env).1) (fun env => (kwN_ok hw pos env).2.1) fun env => by rw [(kwN_ok hw pos env).2.2, star_any (by rw [List.all_cons, h2a, h2b]; rfl) pos env]; rfl⟩
  | _ => none
/-- an object whose attribute is asked: no super() -/
def plainO : Expr → Bool
  | .Call (.Name _ _) [] [] _ => false
  | _ => true
theorem plainO_ok {o : Expr} (h : plainO o = true) (name : Str) : ∀ env : PySem.Env, attributeBase o name env (eval o env) = eval o env := fun env => by
  cases o with
  | Call f as ks pos =>
    cases as with
    | cons a as => cases f <;> rfl
    | nil =>
      cases ks with
      | cons k ks => cases f <;> rfl
      | nil => cases f <;> first | rfl | cases h
  | _ => rfl
/-- a method -/
def cMet (o : Expr) (name : Str) (y : Expr) (apos pos : Pos) : Option {c : E // SE C (.Call (.Attribute o name apos) [y] [] pos) c} :=
  ifB (apos.endLine == pos.line) fun hl =>
  if hn : name = Str.ofString "append" then
    match o with
    | .Name x p =>
      match ixOf C.N x with
      | some i => ifB (visB C x i) fun hv => (cV r y).map fun ⟨c, hc, hp⟩ => ⟨.app i c, by subst hn; exact s_app hv hc hp hl⟩
      | none => none
    | _ => none
  else if hn : name = Str.ofString "extend" then
    match o with
    | .Name x p =>
      match ixOf C.N x with
      | some i => ifB (visB C x i) fun hv => (cV r y).map fun ⟨c, hc, hp⟩ => ⟨.ext i c, by subst hn; exact s_ext hv hc hp hl⟩
      | none => none
    | _ => none
  else
  ifB (plainO o) fun ho =>
  have hb : ∀ env : PySem.Env, attributeBase o name env (eval o env) = eval o env := plainO_ok ho name
  if hn : name = Str.ofString "join" then
    (cP r o).bind fun ⟨co, h1, _⟩ => (cP r y).map fun ⟨cy, h2, hp⟩ => ⟨.met .join co cy, by subst hn; exact s_met (fun _ _ _ _ _ _ => me_join) h1 h2 hp hb hl⟩
  else if hn : name = Str.ofString "count" then
    (cP r o).bind fun ⟨co, h1, _⟩ => (cP r y).map fun ⟨cy, h2, hp⟩ => ⟨.met .count co cy, by subst hn; exact s_met (fun _ _ _ _ _ O => me_count O.units) h1 h2 hp hb hl⟩
  else if hn : name = Str.ofString "index" then
    (cP r o).bind fun ⟨co, h1, _⟩ => (cP r y).map fun ⟨cy, h2, hp⟩ => ⟨.met .index co cy, by subst hn; exact s_met (fun _ _ _ _ _ O => me_index O.units) h1 h2 hp hb hl⟩
  else none
/-- a method without arguments -/
def cMet0 (o : Expr) (name : Str) (apos pos : Pos) : Option {c : E // SE C (.Call (.Attribute o name apos) [] [] pos) c} :=
  ifB (apos.endLine == pos.line) fun hl =>
  if hn : name = Str.ofString "pop" then
    match o with
    | .Name x p =>
      match ixOf C.N x with
      | some i => ifB (visB C x i) fun hv => some ⟨.pop i, by subst hn; exact s_pop hv hl⟩
      | none => none
    | _ => none
  else
  ifB (plainO o) fun ho =>
  have hb : ∀ env : PySem.Env, attributeBase o name env (eval o env) = eval o env := plainO_ok ho name
  if hn : name = Str.ofString "bit_length" then
    (cP r o).map fun ⟨co, h1, _⟩ => ⟨.bi .bitlen co, by subst hn; exact s_bits h1 hb hl⟩
  else none
/-- a built-in function of three values -/
def cBi3 (x : Str) (a b d : Expr) (p pos : Pos) : Option {c : E // SE C (.Call (.Name x p) [a, b, d] [] pos) c} :=
  if hx : x = Str.ofString "max" then
    ifB (bltB C "max" (.builtin "max")) fun hi => (cP r a).bind fun ⟨ca, ha, hp⟩ => (cP r b).bind fun ⟨cb, hb, hp2⟩ => (cP r d).map fun ⟨cd, hd, hp3⟩ => ⟨.bi3 .max2 ca cb cd, by subst hx; exact s_bi3 (fun X h => call_max3Nu h) max3_f max3_D hi ha hb hd hp hp2 hp3⟩
  else if hx : x = Str.ofString "min" then
    ifB (bltB C "min" (.builtin "min")) fun hi => (cP r a).bind fun ⟨ca, ha, hp⟩ => (cP r b).bind fun ⟨cb, hb, hp2⟩ => (cP r d).map fun ⟨cd, hd, hp3⟩ => ⟨.bi3 .min2 ca cb cd, by subst hx; exact s_bi3 (fun X h => call_min3Nu h) min3_f min3_D hi ha hb hd hp hp2 hp3⟩
  else none
/-- what a loop goes through -/
def cIt1 (tg : Expr) (x : Str) (a : Expr) (p pos : Pos) : Option {c : Ir // SIt C tg (.Call (.Name x p) [a] [] pos) c} :=
  if hx : x = Str.ofString "range" then
    ifB (bltB C "range" (.builtin "range") || bltB C "range" (.type "range")) fun hi => (cV r a).map fun ⟨c, hc, hp⟩ => ⟨.rng1 c, by
      subst hx
      have h1 : kindIs C.sc "range" .globalImplicit = true ∧ C.gi "range" = some .blt := by
        rw [Bool.or_eq_true] at hi
        rcases hi with hi | hi
        · obtain ⟨h1, h2, _⟩ := bltB_of hi
          exact ⟨h1, h2⟩
        · obtain ⟨h1, h2, _⟩ := bltB_of hi
          exact ⟨h1, h2⟩
      exact it_rng1 h1.1 h1.2 hc hp⟩
  else if hx : x = Str.ofString "enumerate" then
    match tg with
    | .Tuple elts kk tpos =>
      ifB (bltB C "enumerate" (.builtin "enumerate") || bltB C "enumerate" (.type "enumerate")) fun hi => (cV r a).map fun ⟨c, hc, hp⟩ => ⟨.enum c, by
        subst hx
        have h1 : kindIs C.sc "enumerate" .globalImplicit = true ∧ C.gi "enumerate" = some .blt := by
          rw [Bool.or_eq_true] at hi
          rcases hi with hi | hi
          · obtain ⟨h1, h2, _⟩ := bltB_of hi
            exact ⟨h1, h2⟩
          · obtain ⟨h1, h2, _⟩ := bltB_of hi
            exact ⟨h1, h2⟩
        exact it_enum h1.1 h1.2 hc hp⟩
    | _ => none
  else if hx : x = Str.ofString "reversed" then
    ifB (bltB C "reversed" (.builtin "reversed") || bltB C "reversed" (.type "reversed")) fun hi => (cV r a).map fun ⟨c, hc, hp⟩ => ⟨.rev c, by
      subst hx
      have h1 : kindIs C.sc "reversed" .globalImplicit = true ∧ C.gi "reversed" = some .blt := by
        rw [Bool.or_eq_true] at hi
        rcases hi with hi | hi
        · obtain ⟨h1, h2, _⟩ := bltB_of hi
          exact ⟨h1, h2⟩
        · obtain ⟨h1, h2, _⟩ := bltB_of hi
          exact ⟨h1, h2⟩
      exact it_rev h1.1 h1.2 hc hp⟩
  else (r.e (.Call (.Name x p) [a] [] pos)).map fun ⟨c, h⟩ => ⟨.sq c, it_sq h⟩
def cIt2 (tg : Expr) (x : Str) (a b : Expr) (p pos : Pos) : Option {c : Ir // SIt C tg (.Call (.Name x p) [a, b] [] pos) c} :=
  if hx : x = Str.ofString "range" then
    ifB (bltB C "range" (.builtin "range") || bltB C "range" (.type "range")) fun hi => (cV r a).bind fun ⟨c, hc, hp⟩ => (cV r b).map fun ⟨d, hd, hp2⟩ => ⟨.rng c d, by
      subst hx
      have h1 : kindIs C.sc "range" .globalImplicit = true ∧ C.gi "range" = some .blt := by
        rw [Bool.or_eq_true] at hi
        rcases hi with hi | hi
        · obtain ⟨h1, h2, _⟩ := bltB_of hi
          exact ⟨h1, h2⟩
        · obtain ⟨h1, h2, _⟩ := bltB_of hi
          exact ⟨h1, h2⟩
      exact it_rng h1.1 h1.2 hc hd hp hp2⟩
  else if hx : x = Str.ofString "zip" then
    match tg with
    | .Tuple elts kk tpos =>
      ifB (bltB C "zip" (.builtin "zip") || bltB C "zip" (.type "zip")) fun hi => (cV r a).bind fun ⟨c, hc, hp⟩ => (cV r b).map fun ⟨d, hd, hp2⟩ => ⟨.zip c d, by
        subst hx
        have h1 : kindIs C.sc "zip" .globalImplicit = true ∧ C.gi "zip" = some .blt := by
          rw [Bool.or_eq_true] at hi
          rcases hi with hi | hi
          · obtain ⟨h1, h2, _⟩ := bltB_of hi
            exact ⟨h1, h2⟩
          · obtain ⟨h1, h2, _⟩ := bltB_of hi
            exact ⟨h1, h2⟩
        exact it_zip h1.1 h1.2 hc hd hp hp2⟩
    | _ => none
  else (r.e (.Call (.Name x p) [a, b] [] pos)).map fun ⟨c, h⟩ => ⟨.sq c, it_sq h⟩
def cIt3 (tg : Expr) (x : Str) (a b d : Expr) (p pos : Pos) : Option {c : Ir // SIt C tg (.Call (.Name x p) [a, b, d] [] pos) c} :=
  if hx : x = Str.ofString "range" then
    ifB (bltB C "range" (.builtin "range") || bltB C "range" (.type "range")) fun hi => (cV r a).bind fun ⟨ca, ha, hp⟩ => (cV r b).bind fun ⟨cb, hb, hp2⟩ => (cV r d).map fun ⟨cd, hd, hp3⟩ => ⟨.rng3 ca cb cd, by
      subst hx
      have h1 : kindIs C.sc "range" .globalImplicit = true ∧ C.gi "range" = some .blt := by
        rw [Bool.or_eq_true] at hi
        rcases hi with hi | hi
        · obtain ⟨h1, h2, _⟩ := bltB_of hi
          exact ⟨h1, h2⟩
        · obtain ⟨h1, h2, _⟩ := bltB_of hi
          exact ⟨h1, h2⟩
      exact it_rng3 h1.1 h1.2 ha hb hd hp hp2 hp3⟩
  else (r.e (.Call (.Name x p) [a, b, d] [] pos)).map fun ⟨c, h⟩ => ⟨.sq c, it_sq h⟩
def cIt (tg x : Expr) : Option {c : Ir // SIt C tg x c} :=
  match x with
  | .Call (.Name n p) [a] [] pos => cIt1 r tg n a p pos
  | .Call (.Name n p) [a, b] [] pos => cIt2 r tg n a b p pos
  | .Call (.Name n p) [a, b, d] [] pos => cIt3 r tg n a b d p pos
  | x => (r.e x).map fun ⟨c, h⟩ => ⟨.sq c, it_sq h⟩
/-! ### targets -/
def cGs : (xs : List Expr) → Option {c : List Tg // SGs C xs c ∧ xs.all plainG = true ∧ xs.length = c.length}
  | [] => some ⟨[], gs_nil, rfl, rfl⟩
  | x :: xs => ifB (plainG x) fun hp => (r.g x).bind fun ⟨c, h⟩ => (cGs xs).map fun ⟨cs, hs, ha, hl⟩ => ⟨c :: cs, gs_cons hp h hs, by rw [List.all_cons, hp, ha]; rfl, congrArg (· + 1) hl⟩
theorem each_len : ∀ {es : List Expr}, es.all plainG = true → ∀ env, (assignEach es env).length = es.length ∧ (assignEach es env).findIdx? (·.1) = none
  | [], _, env => ⟨rfl, rfl⟩
  | e :: es, h, env => by
    rw [List.all_cons, Bool.and_eq_true] at h
    obtain ⟨h1, h2⟩ := each_len h.2 env
    have e1 : assignEach (e :: es) env = (false, assign e env) :: assignEach es env := by
      cases e <;> first | rfl | cases h.1
    rw [e1]
    refine ⟨congrArg (· + 1) h1, ?_⟩
    rw [List.findIdx?_cons, h2]
    rfl
def cG (x : Expr) : Option {c : Tg // SG C x c} :=
  match x with
  | .Name n pos =>
    match ixOf C.N n with
    | some i => ifB (locB C n i) fun h => some ⟨.nm i, g_nm h⟩
    | none => none
  | .Tuple es k pos => (cGs r es).map fun ⟨cs, hs, ha, hl⟩ => ⟨.tup cs, g_tup hs hl (fun env => (each_len ha env).1) fun env => (each_len ha env).2⟩
  | _ => none
/-! ### expressions -/
def cNm (n : Str) (pos : Pos) : Option {c : E // SE C (.Name n pos) c} :=
  match ixOf C.N n with
  | some i => ifB (visB C n i) fun h => some ⟨.var i, s_var h⟩
  | none =>
    ifB (kindIs C.sc n .globalImplicit && !(n == ("__debug__" : Str))) fun hk =>
    match hg : C.gi n with
    | some (.cst d) => some ⟨.cst d, by
        rw [Bool.and_eq_true, Bool.not_eq_true'] at hk
        exact s_glob hk.1 hg hk.2⟩
    | some (.fn f ps dfl _) => some ⟨.cst (.fn f), by
        rw [Bool.and_eq_true, Bool.not_eq_true'] at hk
        exact s_fnv hk.1 hg hk.2⟩
    | _ => none
def cCst (v : Const) (k : Nat) (pos : Pos) : Option {c : E // SE C (.Constant v k pos) c} :=
  match v with
  | .int i => some ⟨.cst (.int i), s_int⟩
  | .bool b => some ⟨.cst (.bl b), s_bl⟩
  | .none => some ⟨.cst .non, s_non⟩
  | .str x => ifB (x.cps.toList.all fun c => decide (c < 1114112)) fun h => some ⟨.cst (.str x.cps.toList), s_str h⟩
  | _ => none
/-- the block's own names -/
def ownOf (N : List Str) (scope : Scope) : List (Str × Nat) := scope.names.filterMap fun (n, k) => match k with
  | .local => (ixOf N n).map fun i => (n, i)
  | .cell => (ixOf N n).map fun i => (n, i)
  | _ => none
structure LcC (C : CC) (elt tg iter : Expr) (ifs : List Expr) (scope : Scope) where
  tg' : Tg
  cit : Ir
  cc : Option T
  ce : E
  ok : LcParts C elt tg iter ifs scope (ownOf C.N scope) tg' cit cc ce
end
def cOT {C : CC} (r : Rec C) (ifs : List Expr) : Option {c : Option T // SOT C ifs c} :=
  match ifs with
  | [] => some ⟨none, ot_none⟩
  | [t] => (r.t t).map fun ⟨c, h⟩ => ⟨some c, ot_some h⟩
  | _ => none
section
variable (R0 : ∀ C : CC, Rec C) {C : CC}
def cLc (elt tg iter : Expr) (ifs : List Expr) (scope : Scope) : Option (LcC C elt tg iter ifs scope) :=
  ifB (plainE iter) fun hp =>
  ifB (blkC C.N C.sc scope (ownOf C.N scope)) fun hb =>
  ((R0 C).i tg iter).bind fun ⟨ci, hi⟩ =>
  ((R0 (blkCC C scope ((ownOf C.N scope).map (·.2)))).g tg).bind fun ⟨cg, hg⟩ =>
  (cOT (R0 (blkCC C scope ((ownOf C.N scope).map (·.2)))) ifs).bind fun ⟨ct, ht⟩ =>
  ((R0 (blkCC C scope ((ownOf C.N scope).map (·.2)))).e elt).map fun ⟨ce, he⟩ =>
  ⟨cg, ci, ct, ce, ⟨hi, hb, hg, ht, he, hp⟩⟩
/-- the names of a target -/
def tgNs (N : List Str) : Expr → List Nat
  | .Name n _ => (ixOf N n).toList
  | .Tuple es _ _ => es.flatMap fun e => match e with
    | .Name n _ => (ixOf N n).toList
    | .Tuple es _ _ => es.flatMap fun e => match e with
      | .Name n _ => (ixOf N n).toList
      | _ => []
    | _ => []
  | _ => []
structure LcC2 (C : CC) (elt tg iter : Expr) (ifs : List Expr) (tg1 iter1 : Expr) (ifs1 : List Expr) (scope : Scope) where
  tg' : Tg
  cit : Ir
  cc : Option T
  tg1' : Tg
  cit1 : Ir
  cc1 : Option T
  ce : E
  ok : LcParts2 C elt tg iter ifs tg1 iter1 ifs1 scope (ownOf C.N scope) (tgNs C.N tg1) tg' cit cc tg1' cit1 cc1 ce
def cLc2 (elt tg iter : Expr) (ifs : List Expr) (tg1 iter1 : Expr) (ifs1 : List Expr) (scope : Scope) : Option (LcC2 C elt tg iter ifs tg1 iter1 ifs1 scope) :=
  ifB (plainE iter) fun hp =>
  ifB (plainE iter1) fun hp1 =>
  ifB (blkC C.N C.sc scope (ownOf C.N scope)) fun hb =>
  ifB ((tgNs C.N tg1).all fun i => ((ownOf C.N scope).map (·.2)).contains i) fun hv =>
  ((R0 C).i tg iter).bind fun ⟨ci, hi⟩ =>
  ((R0 (blkCC C scope ((ownOf C.N scope).map (·.2)))).g tg).bind fun ⟨cg, hg⟩ =>
  (cOT (R0 (blkCC C scope ((ownOf C.N scope).map (·.2)))) ifs).bind fun ⟨ct, ht⟩ =>
  ((R0 (blkCC C scope ((ownOf C.N scope).map (·.2)))).i tg1 iter1).bind fun ⟨ci1, hi1⟩ =>
  ((R0 (blkCC C scope (tgNs C.N tg1))).g tg1).bind fun ⟨cg1, hg1⟩ =>
  (cOT (R0 (blkCC C scope ((ownOf C.N scope).map (·.2)))) ifs1).bind fun ⟨ct1, ht1⟩ =>
  ((R0 (blkCC C scope ((ownOf C.N scope).map (·.2)))).e elt).map fun ⟨ce, he⟩ =>
  ⟨cg, ci, ct, cg1, ci1, ct1, ce, ⟨hi, hb, hg, ht, hi1, hg1, ht1, he, fun i h => by
    rw [List.all_eq_true] at hv
    exact List.contains_iff_mem.mp (hv i h), hp, hp1⟩⟩
def cE (x : Expr) : Option {c : E // SE C x c} :=
  match x with
  | .Name n pos => cNm n pos
  | .Constant v k pos => cCst v k pos
  | .BinOp a op b pos => (cOp op).bind fun ⟨o, ho⟩ => (cP (R0 C) a).bind fun ⟨ca, ha, _⟩ => (cP (R0 C) b).map fun ⟨cb, hb, _⟩ => ⟨.bin o ca cb, s_bin ho ha hb⟩
  | .UnaryOp .USub a pos => ((R0 C).e a).map fun ⟨c, h⟩ => ⟨.neg c, s_neg h⟩
  | .UnaryOp .Not a pos => (cP (R0 C) a).map fun ⟨c, h, _⟩ => ⟨.tst (.not (.tr c)), s_not h⟩
  | .BoolOp .And xs pos => vAnd (R0 C) pos xs
  | .BoolOp .Or xs pos => vOr (R0 C) pos xs
  | .IfExp t a b pos => ((R0 C).t t).bind fun ⟨ct, ht⟩ => ((R0 C).e a).bind fun ⟨ca, ha⟩ => ((R0 C).e b).map fun ⟨cb, hb⟩ => ⟨.ite ct ca cb, s_ite ht ha hb⟩
  | .Compare a [.Is] [.Constant .none j p'] pos => (cP (R0 C) a).map fun ⟨c, h, _⟩ => ⟨.tst (.isN c), s_isN h⟩
  | .Compare a [.IsNot] [.Constant .none j p'] pos => (cP (R0 C) a).map fun ⟨c, h, _⟩ => ⟨.tst (.not (.isN c)), s_notN h⟩
  | .Compare a [op] [b] pos => (cCmp op).bind fun ⟨o, ho⟩ => (cP (R0 C) a).bind fun ⟨ca, ha, _⟩ => (cP (R0 C) b).map fun ⟨cb, hb, hp⟩ => ⟨.tst (.cmp o ca cb), s_cmp ho ha hb hp⟩
  | .Compare a [op, op2] [b, d] pos => (cCmp op).bind fun ⟨o, ho⟩ => (cCmp op2).bind fun ⟨o2, ho2⟩ => (cP (R0 C) a).bind fun ⟨ca, ha, _⟩ => (cP (R0 C) b).bind fun ⟨cb, hb, _⟩ => (cP (R0 C) d).map fun ⟨cd, hd, hp⟩ => ⟨.tst (.chain o o2 ca cb cd), s_chain ho ho2 ha hb hd hp⟩
  | .Call (.Name n p) args [] pos =>
    match ixOf C.N n with
    | some i => cCv (R0 C) n i args p pos
    | none =>
    match C.gi n with
    | some .blt =>
      match args with
      | [a] => cBi (R0 C) n a p pos
      | [a, b] => cIsa (R0 C) n a b p pos
      | [a, b, d] => cBi3 (R0 C) n a b d p pos
      | _ => none
    | _ => cFn (R0 C) n args p pos
  | .Call (.Name n p) args (k0 :: kws) pos => cFnK (R0 C) n args (k0 :: kws) p pos
  | .Call (.Attribute o name apos) [] [] pos => cMet0 (R0 C) o name apos pos
  | .Call (.Attribute o name apos) [y] [] pos => cMet (R0 C) o name y apos pos
  | .Subscript a (.Slice lo none (some (.UnaryOp .USub (.Constant (.int 1) _ _) _)) p2) pos => (cP (R0 C) a).bind fun ⟨ca, ha, _⟩ => (cO (R0 C) lo).map fun ⟨cl, hl⟩ => ⟨.rvs ca cl, s_rvs ha hl⟩
  | .Subscript a (.Slice lo hi none p2) pos => (cP (R0 C) a).bind fun ⟨ca, ha, _⟩ => (cO (R0 C) lo).bind fun ⟨cl, hl⟩ => (cO (R0 C) hi).map fun ⟨ch, hh⟩ => ⟨.slc ca cl ch, s_slc ha hl hh⟩
  | .Subscript a b pos => ifB (plainIx b) fun hs => (cP (R0 C) a).bind fun ⟨ca, ha, _⟩ => (cP (R0 C) b).map fun ⟨cb, hb, _⟩ => ⟨.ix ca cb, s_ix ha hb hs⟩
  | .Tuple es k pos => (cEs (R0 C) es).map fun ⟨c, h⟩ => ⟨.tup c, s_tup h⟩
  | .List es pos => (cEs (R0 C) es).map fun ⟨c, h⟩ => ⟨.lst c, s_lst h⟩
  | .ListComp elt [⟨tg, iter, ifs, 0⟩] scope pos => (cLc R0 elt tg iter ifs scope).map fun l => ⟨.lc ((ownOf C.N scope).map (·.2)) l.tg' l.cit l.cc l.ce, s_lc l.ok⟩
  | .ListComp elt [⟨tg, iter, ifs, 0⟩, ⟨tg1, iter1, ifs1, 0⟩] scope pos => (cLc2 R0 elt tg iter ifs tg1 iter1 ifs1 scope).map fun l => ⟨.lc2 ((ownOf C.N scope).map (·.2)) (tgNs C.N tg1) l.tg' l.cit l.cc l.tg1' l.cit1 l.cc1 l.ce, s_lc2 l.ok⟩
  | _ => none
def cT (x : Expr) : Option {c : T // ST C x c} :=
  match x with
  | .IfExp t a b pos => ((R0 C).t t).bind fun ⟨ct, ht⟩ => ((R0 C).t a).bind fun ⟨ca, ha⟩ => ((R0 C).t b).map fun ⟨cb, hb⟩ => ⟨.ite ct ca cb, t_ite ht ha hb⟩
  | .Compare a [op, op2] [b, d] pos => (cCmp op).bind fun ⟨o, ho⟩ => (cCmp op2).bind fun ⟨o2, ho2⟩ => (cP (R0 C) a).bind fun ⟨ca, ha, _⟩ => (cP (R0 C) b).bind fun ⟨cb, hb, _⟩ => (cP (R0 C) d).map fun ⟨cd, hd, hp⟩ => ⟨.chain o o2 ca cb cd, t_chain ho ho2 ha hb hd hp⟩
  | .UnaryOp .Not a pos => ((R0 C).t a).map fun ⟨c, h⟩ => ⟨.not c, t_not h⟩
  | .BoolOp .And xs pos => (cAnd (R0 C) pos xs).map fun ⟨c, h⟩ => ⟨c, h.st⟩
  | .BoolOp .Or xs pos => (cOr (R0 C) pos xs).map fun ⟨c, h⟩ => ⟨c, h.st⟩
  | .Compare a [.Is] [.Constant .none j p'] pos => (cP (R0 C) a).map fun ⟨c, h, _⟩ => ⟨.isN c, t_isN h⟩
  | .Compare a [.IsNot] [.Constant .none j p'] pos => (cP (R0 C) a).map fun ⟨c, h, _⟩ => ⟨.not (.isN c), t_notN h⟩
  | .Compare a [op] [b] pos => (cCmp op).bind fun ⟨o, ho⟩ => (cP (R0 C) a).bind fun ⟨ca, ha, _⟩ => (cP (R0 C) b).map fun ⟨cb, hb, hp⟩ => ⟨.cmp o ca cb, t_cmp ho ha hb hp⟩
  | x => ifB (plainT x) fun ht => (cP (R0 C) x).map fun ⟨c, h, _⟩ => ⟨.tr c, t_tr h ht⟩
/-! ### statements -/
def cSs : (xs : List Stmt) → Option {c : Ss // SSs C xs c}
  | [] => some ⟨.nil, ss_nil⟩
  | x :: xs => ((R0 C).s x).bind fun ⟨c, h⟩ => (cSs xs).map fun ⟨cs, hs⟩ => ⟨.cons c cs, ss_cons h hs⟩
def cPar (ts vs : List Expr) (k k2 : Nat) (p p2 pos : Pos) (L : List Str) (hw : swCls C.sc ts vs = some (some L)) (hk : C.sc.kind = .function) : Option {c : S // SS C (.Assign [.Tuple ts k p] (.Tuple vs k2 p2) pos) c} :=
  match ts, vs with
  | [.Name x px, .Name y py], [a, b] =>
    match ixOf C.N x, ixOf C.N y with
    | some i, some j =>
      ifB (locB C x i && (locB C y j && (kindIs C.sc x .local && (kindIs C.sc y .local && (decide (i ≠ j) && decide (L = [x, y])))))) fun hb =>
      (cV (R0 C) a).bind fun ⟨ca, ha, hp⟩ => (cV (R0 C) b).map fun ⟨cb, hb2, hp2⟩ => ⟨.par [i, j] (.cons ca (.cons cb .nil)), by
        simp only [Bool.and_eq_true, decide_eq_true_eq] at hb
        obtain ⟨h1, h2, h3, h4, h5, h6⟩ := hb
        subst h6
        exact st_par ha hb2 hp hp2 h1 h2 h3 h4 h5 hk hw⟩
    | _, _ => none
  | [.Name x px, .Name y py, .Name z pz], [a, b, d] =>
    match ixOf C.N x, ixOf C.N y, ixOf C.N z with
    | some i, some j, some l =>
      ifB (locB C x i && (locB C y j && (locB C z l && (kindIs C.sc x .local && (kindIs C.sc y .local && (kindIs C.sc z .local && (decide (i ≠ j) && (decide (i ≠ l) && (decide (j ≠ l) && decide (L = [x, y, z])))))))))) fun hb =>
      (cV (R0 C) a).bind fun ⟨ca, ha, hp⟩ => (cV (R0 C) b).bind fun ⟨cb, hb2, hp2⟩ => (cV (R0 C) d).map fun ⟨cd, hd, hp3⟩ => ⟨.par [i, j, l] (.cons ca (.cons cb (.cons cd .nil))), by
        simp only [Bool.and_eq_true, decide_eq_true_eq] at hb
        obtain ⟨h1, h2, h3, h4, h5, h6, h7, h8, h9, h10⟩ := hb
        subst h10
        exact st_par3 ha hb2 hd hp hp2 hp3 h1 h2 h3 h4 h5 h6 h7 h8 h9 hk hw⟩
    | _, _, _ => none
  | _, _ => none
def isFnS (sc : Scope) : Option {_u : Unit // sc.kind = .function} :=
  match h : sc.kind with
  | .function => some ⟨(), rfl⟩
  | _ => none
def cTT (ts vs : List Expr) (k k2 : Nat) (p p2 pos : Pos) : Option {c : S // SS C (.Assign [.Tuple ts k p] (.Tuple vs k2 p2) pos) c} :=
  (isFnS C.sc).bind fun ⟨_, hk⟩ =>
  match hw : swCls C.sc ts vs with
  | none => none
  | some none => ((R0 C).e (.Tuple vs k2 p2)).bind fun ⟨ce, he⟩ => ((R0 C).g (.Tuple ts k p)).map fun ⟨cg, hg⟩ => ⟨.asg cg ce, st_asgT he hg hk hw⟩
  | some (some L) => cPar R0 ts vs k k2 p p2 pos L hw hk
def plainTE (tg e : Expr) : Bool := match tg, e with | .Tuple .., .Tuple .. => false | .List .., .Tuple .. => false | _, _ => true
def cAsg (tg e : Expr) (pos : Pos) : Option {c : S // SS C (.Assign [tg] e pos) c} :=
  ifB (swOk C.sc tg e) fun hn => ifB (plainTE tg e) fun hw => ifB (plainG tg) fun hp =>
  ((R0 C).e e).bind fun ⟨ce, he⟩ => ((R0 C).g tg).map fun ⟨cg, hg⟩ => ⟨.asg cg ce, st_asg he hg hn (fun _ _ _ _ _ _ => no_swap (by unfold plainTE at hw; exact hw) _) hp⟩
/-- clauses that answer -/
def cHs : (hds : List ExceptHandler) → Option {l : List (Nat × D) // SHs C hds l}
  | [] => some ⟨[], hs_nil⟩
  | .ExceptHandler (some (.Name x np)) (some n) [.Return (some (.IfExp (.Call (.Name i p1) [.Name n2 p2, .Name v p3] [] p4) (.Constant (.str A) ja p5) (.Constant (.str B) jb p6) p7)) p8] pos' :: hds =>
    (cHs hds).bind fun ⟨l, hl⟩ =>
    match ixOf C.N n with
    | none => none
    | some k =>
    match hg : C.gi x with
    | some (.exc c) =>
      ifB (kindIs C.sc x .globalImplicit && (!(x == ("__debug__" : Str)) && (decide (C.N[k]? = some n) && (kindIs C.sc n .local && (!(n == ("__debug__" : Str)) && (!(n == ("__classdict__" : Str)) && (bltB C "isinstance" (.builtin "isinstance") && (tyB C "ValueError" && (decide (i = Str.ofString "isinstance") && (decide (n2 = n) && (decide (v = Str.ofString "ValueError") && A.cps.toList.all fun c => decide (c < 1114112)))))))))))) fun hb =>
      some ⟨(c, .str A.cps.toList) :: l, by
        simp only [Bool.and_eq_true, Bool.not_eq_true', decide_eq_true_eq] at hb
        obtain ⟨h1, h2, h3, h4, h5, h6, h7, h8, h9, h10, h11, h12⟩ := hb
        subst h9 h10 h11
        exact hs_cons (p9 := pos') h1 hg h2 h3 h4 h5 h6 h7 h8 h12 hl⟩
    | _ => none
  | _ => none
def cS (np : Nat) (x : Stmt) : Option {c : S // SS C x c} :=
  match x with
  | .Pass pos => some ⟨.pass, st_pass⟩
  | .Break pos => some ⟨.brk, st_brk⟩
  | .Continue pos => some ⟨.cont, st_cont⟩
  | .Return none pos => some ⟨.retn, st_retn⟩
  | .Return (some (.Name n p)) pos =>
    match ixOf C.N n with
    | some i => if np ≤ i then ifB (visB C n i) fun h => some ⟨.ret (.mv i), st_ret (s_mv h)⟩ else ifB (visB C n i) fun h => some ⟨.ret (.var i), st_ret (s_var h)⟩
    | none => ((R0 C).e (.Name n p)).map fun ⟨c, h⟩ => ⟨.ret c, st_ret h⟩
  | .Return (some e) pos => ((R0 C).e e).map fun ⟨c, h⟩ => ⟨.ret c, st_ret h⟩
  | .Expr e pos => ifB (noComp e) fun hn => ((R0 C).e e).map fun ⟨c, h⟩ => ⟨.ex c, st_ex h hn⟩
  | .If t xs ys pos => ((R0 C).t t).bind fun ⟨ct, ht⟩ => (cSs R0 xs).bind fun ⟨cx, hx⟩ => (cSs R0 ys).map fun ⟨cy, hy⟩ => ⟨.ite ct cx cy, st_ite ht hx hy⟩
  | .Try body (h0 :: hds) [] [] pos => ifB C.fb fun hf => (cSs R0 body).bind fun ⟨cb, hb⟩ => (cHs (h0 :: hds)).map fun ⟨l, hl⟩ => ⟨.tr cb l, st_try hf hb hl⟩
  | .While t xs [] pos => ((R0 C).t t).bind fun ⟨ct, ht⟩ => (cSs R0 xs).map fun ⟨cx, hx⟩ => ⟨.whl ct cx, st_whl ht hx⟩
  | .For tg it xs [] pos => ifB (plainE it) fun hp => ((R0 C).i tg it).bind fun ⟨ci, hi⟩ => ((R0 C).g tg).bind fun ⟨cg, hg⟩ => (cSs R0 xs).map fun ⟨cx, hx⟩ => ⟨.fr cg ci cx, st_fr hi hg hx hp⟩
  | .Raise (some (.Call (.Name n p) [] [] p2)) none pos =>
    ifB (kindIs C.sc n .globalImplicit && !(n == ("__debug__" : Str))) fun hk =>
    match hg : C.gi n with
    | some (.exc c) => some ⟨.raise c, by
        rw [Bool.and_eq_true, Bool.not_eq_true'] at hk
        exact st_raise hk.1 hg hk.2⟩
    | _ => none
  | .AugAssign (.Subscript (.Name n p) k ipos) .Add e pos =>
    match ixOf C.N n with
    | some i => ifB (visB C n i) fun hv => ifB (plainIx k) fun hs => ((R0 C).e k).bind fun ⟨ck, hk⟩ => ((R0 C).e e).map fun ⟨ce, he⟩ => ⟨.aug i ck ce, st_aug hv hk he hs⟩
    | none => none
  | .Assign [.Subscript (.Name n p) k ipos] e pos =>
    match ixOf C.N n with
    | some i => ifB (visB C n i) fun hv => ifB (plainIx k) fun hs => ifB (noComp e) fun hn => ((R0 C).e k).bind fun ⟨ck, hk⟩ => ((R0 C).e e).map fun ⟨ce, he⟩ => ⟨.stx i ck ce, st_stx hv hk he hn hs⟩
    | none => none
  | .Assign [.Name y py] (.ListComp elt [⟨tg, iter, ifs, 0⟩] scope pos) spos =>
    if kindIs C.sc y .cell then cAsg R0 (.Name y py) (.ListComp elt [⟨tg, iter, ifs, 0⟩] scope pos) spos else
    match ixOf C.N y with
    | some i => ifB (locB C y i) fun hy => ifB (swB C scope y py pos) fun hs => (cLc R0 elt tg iter ifs scope).map fun l => ⟨.asg (.nm i) (.lc ((ownOf C.N scope).map (·.2)) l.tg' l.cit l.cc l.ce), st_asgLc l.ok hy hs⟩
    | none => none
  | .Assign [.Name y py] (.ListComp elt [⟨tg, iter, ifs, 0⟩, ⟨tg1, iter1, ifs1, 0⟩] scope pos) spos =>
    if kindIs C.sc y .cell then cAsg R0 (.Name y py) (.ListComp elt [⟨tg, iter, ifs, 0⟩, ⟨tg1, iter1, ifs1, 0⟩] scope pos) spos else
    match ixOf C.N y with
    | some i => ifB (locB C y i) fun hy => ifB (swB C scope y py pos) fun hs => (cLc2 R0 elt tg iter ifs tg1 iter1 ifs1 scope).map fun l => ⟨.asg (.nm i) (.lc2 ((ownOf C.N scope).map (·.2)) (tgNs C.N tg1) l.tg' l.cit l.cc l.tg1' l.cit1 l.cc1 l.ce), st_asgLc2 l.ok hy hs⟩
    | none => none
  | .Assign [.Tuple ts k p] (.Tuple vs k2 p2) pos => cTT R0 ts vs k k2 p p2 pos
  | .Assign [tg] e pos => cAsg R0 tg e pos
  | _ => none
end
def rec0 (C : CC) : Rec C := ⟨fun _ => none, fun _ => none, fun _ => none, fun _ _ => none, fun _ => none⟩
def step (np : Nat) (R0 : ∀ C : CC, Rec C) (C : CC) : Rec C := ⟨cE R0, cT R0, cG (R0 C), cIt (R0 C), cS R0 np⟩
def recN (np : Nat) : Nat → ∀ C : CC, Rec C
  | 0 => rec0
  | n + 1 => step np (recN np n)
/-- a body -/
def cBody (np n : Nat) (C : CC) (body : List Stmt) : Option {c : Ss // SSs C body c} := cSs (recN np n) body
theorem cBody_ok {np n : Nat} {C : CC} {body : List Stmt} {c : Ss} (h : (cBody np n C body).map (·.val) = some c) : SSs C body c := by
  cases q : cBody np n C body with
  | none => rw [q] at h; cases h
  | some p =>
    rw [q] at h
    cases h
    exact p.2
end Rf

set_option maxHeartbeats 1000000
/-! Rf11: the defs of a text. -/
namespace Rf
open PySem PySem.Spec L2
/-- a def: its name, its number, its place in the text, its parameters, its defaults, the names of its slots, the parameters that it stores -/
structure Ent where
  x : Str
  f : Nat
  i : Nat
  ps : List Str
  dfl : List Int
  N : List Str
  st : List Nat
  ks : List Nat := []
def tr (x : Str) (g : GI) : Str × GI := (x, g)
def Ent.cc (e : Ent) (tbl : List (Str × GI)) (sc : Scope) : CC := { N := e.N, sc := sc, fnb := fun _ => true, gi := fun x => tbl.lookup x, fx := fun i => decide (i < e.ps.length) && !e.st.contains i, fb := true }
def atTop (body : List Stmt) (i : Nat) : Stmt := body.getD i (.Pass ⟨0, 0, 0, 0⟩)
def Ent.code (e : Ent) (tbl : List (Str × GI)) (body : List Stmt) : Option Ss := (cBody e.ps.length 40 (e.cc tbl (defScope (atTop body e.i))) (defBody (atTop body e.i))).map (·.val)

section
variable {K : PySem.W.Frag} {FA CA : Nat → Option Addr} {Z : Addr → Prop} {σ σ' : St} {H F H' F' : Hp} {ρ ρ' : Env}
/-! ### a frame's begin -/
theorem SR.app0 (S : SR K FA Z σ H ρ F) (n : Nat) : SR K FA Z (σ ++ List.replicate n none) H (ρ ++ List.replicate n none) F := by
  have key : ∀ {i : Nat} {s : Sl}, (ρ ++ List.replicate n none)[i]? = some (some s) → ρ[i]? = some (some s) ∧ (σ ++ List.replicate n none)[i]? = σ[i]? := fun {i s} e => by
    by_cases h : i < ρ.length
    · rw [List.getElem?_append_left h] at e
      exact ⟨e, List.getElem?_append_left (by rw [← S.len]; exact h)⟩
    · rw [List.getElem?_append_right (by omega), List.getElem?_replicate] at e
      split at e <;> cases e
  have ow : ∀ {i a}, owns (σ ++ List.replicate n none) (ρ ++ List.replicate n none) i a → owns σ ρ i a := fun {i a} ⟨e1, d, e2⟩ => by
    obtain ⟨e3, e4⟩ := key e2
    rw [e4] at e1
    exact ⟨e1, d, e3⟩
  refine ⟨S.sub, S.zf, by simp [S.len], fun i s e => ?_, fun i a o => S.oz i a (ow o), fun i j a o1 o2 => S.dis i j a (ow o1) (ow o2)⟩
  obtain ⟨e3, e4⟩ := key e
  obtain ⟨x, e5, r⟩ := S.slot i s e3
  exact ⟨x, by rw [e4]; exact e5, r⟩
theorem fzP_get (st : List Nat) : ∀ (k i : Nat) (ss : List Sl), (fzP st k ss)[i]? = (ss[i]?).map fun s => if st.contains (k + i) then Sl.v s.d else s
  | k, i, [] => by simp [fzP]
  | k, 0, s :: ss => by simp [fzP]
  | k, i + 1, s :: ss => by
    rw [fzP, List.getElem?_cons_succ, List.getElem?_cons_succ, fzP_get st (k + 1) i ss]
    rw [show k + 1 + i = k + (i + 1) by omega]
theorem fzP_len (st : List Nat) : ∀ (k : Nat) (ss : List Sl), (fzP st k ss).length = ss.length
  | k, [] => rfl
  | k, s :: ss => congrArg (· + 1) (fzP_len st (k + 1) ss)
/-- what is frozen slot by slot -/
theorem SR.fzMany (S : SR K FA Z σ H ρ F) : ∀ is : List Nat, ∃ F', Ext Z F H F' H ∧ SR K FA Z σ H (Rf.fzs ρ is) F'
  | [] => ⟨F, .refl, S⟩
  | i :: is => by
    obtain ⟨F1, e1, S1⟩ := SR.fzMany S is
    obtain ⟨F2, e2, S2, _⟩ := S1.fz i
    exact ⟨F2, e1.trans e2, S2⟩
theorem fz_get (ρ : Env) (i j : Nat) : (fz ρ i)[j]? = (ρ[j]?).map fun o => if i = j then o.map fun s => Sl.v s.d else o := by
  unfold Rf.fz
  cases g : gt ρ i with
  | none =>
    by_cases h : i = j
    · subst h
      cases q : ρ[i]? with
      | none => rfl
      | some o =>
        cases o with
        | none => simp
        | some s =>
          have := gt_some.mpr q
          rw [g] at this
          cases this
    · simp [h]
  | some s =>
    have q := gt_some.mp g
    cases s with
    | v d =>
      by_cases h : i = j
      · subst h
        simp [q]
      · simp [h]
    | o d =>
      by_cases h : i = j
      · subst h
        have hl := (List.getElem?_eq_some_iff.mp q).1
        show (ρ.set i _)[i]? = _
        rw [List.getElem?_set_self hl, q]
        simp
      · show (ρ.set i _)[j]? = _
        rw [List.getElem?_set_ne h]
        simp [h]
theorem fzs_get (ρ : Env) (j : Nat) : ∀ is : List Nat, (fzs ρ is)[j]? = (ρ[j]?).map fun o => if is.contains j then o.map fun s => Sl.v s.d else o
  | [] => by simp [Rf.fzs]
  | i :: is => by
    rw [Rf.fzs, fz_get, fzs_get ρ j is, Option.map_map]
    congr 1
    funext o
    by_cases h : i = j
    · subst h
      by_cases h2 : i ∈ is <;> cases o <;> simp [h2]
    · have h' : ¬ j = i := fun e => h e.symm
      by_cases h2 : j ∈ is <;> simp [h, h', h2]
theorem fzP_eq (st : List Nat) (ss : List Sl) : (fzP st 0 ss).map some = fzs (ss.map some) st := by
  apply List.ext_getElem?
  intro i
  rw [List.getElem?_map, fzP_get, fzs_get, List.getElem?_map, Nat.zero_add]
  cases ss[i]? with
  | none => rfl
  | some s => by_cases h : i ∈ st <;> simp [h]
theorem SR.begin {vs : List V} {ss : List Sl} (S : SR K FA Z (vs.map some) H (ss.map some) F) (st : List Nat) (n : Nat) :
    ∃ F', Ext Z F H F' H ∧ SR K FA Z (vs.map some) H ((fzP st 0 ss).map some) F' ∧ SR K FA Z (vs.map some ++ List.replicate n none) H ((fzP st 0 ss).map some ++ List.replicate n none) F' := by
  obtain ⟨F1, e1, S1⟩ := S.fzMany st
  rw [← fzP_eq] at S1
  exact ⟨F1, e1, S1, S1.app0 n⟩
/-! ### a frame's end -/
theorem give_get {st : List Nat} : ∀ {k : Nat} {ss r : List Sl}, give ρ st k ss = some r → r.length = ss.length ∧ ∀ i s, r[i]? = some s → ∃ s0, ss[i]? = some s0 ∧ ((∃ d, s0 = .v d ∧ s = .v d) ∨ (∃ d, s0 = .o d ∧ gt ρ (k + i) = some s))
  | k, [], r, h => by
    rw [give] at h
    cases h
    exact ⟨rfl, fun i s e => by simp at e⟩
  | k, .v d :: ss, r, h => by
    rw [give] at h
    obtain ⟨r', h1, rfl⟩ := Option.map_eq_some_iff.mp h
    obtain ⟨l, g⟩ := give_get h1
    refine ⟨congrArg (· + 1) l, fun i s e => ?_⟩
    cases i with
    | zero =>
      simp at e
      exact ⟨.v d, rfl, .inl ⟨d, rfl, e.symm⟩⟩
    | succ i =>
      simp only [List.getElem?_cons_succ] at e
      obtain ⟨s0, e1, h2⟩ := g i s e
      refine ⟨s0, by simpa using e1, ?_⟩
      rw [show k + 1 + i = k + (i + 1) by omega] at h2
      exact h2
  | k, .o d :: ss, r, h => by
    rw [give] at h
    cases q : gt ρ k with
    | none => rw [q] at h; cases h
    | some t =>
      rw [q] at h
      obtain ⟨r', h1, rfl⟩ := Option.map_eq_some_iff.mp h
      obtain ⟨l, g⟩ := give_get h1
      refine ⟨congrArg (· + 1) l, fun i s e => ?_⟩
      cases i with
      | zero =>
        simp at e
        subst e
        exact ⟨.o d, rfl, .inr ⟨d, rfl, q⟩⟩
      | succ i =>
        simp only [List.getElem?_cons_succ] at e
        obtain ⟨s0, e1, h2⟩ := g i s e
        refine ⟨s0, by simpa using e1, ?_⟩
        rw [show k + 1 + i = k + (i + 1) by omega] at h2
        exact h2
theorem give_ok {vs : List V} {ss r : List Sl} {st : List Nat} {n : Nat} {F0 H0 : Hp} (hl : ss.length = vs.length) (hst : ∀ i d, ss[i]? = some (Sl.o d) → st.contains i = false) (S0 : SR K FA Z (vs.map some) H0 (ss.map some) F0) (e : Ext Z F0 H0 F' H') (S : SR K FA Z σ' H' ρ' F')
    (f : Fixd (fun i => decide (i < vs.length) && !st.contains i) (vs.map some ++ List.replicate n none) σ') (h : give ρ' st 0 ss = some r) :
    r.length = vs.length ∧ SR K FA Z (vs.map some) H' (r.map some) F' ∧ ∀ i a, owns (vs.map some) (r.map some) i a → owns σ' ρ' i a := by
  obtain ⟨l, g⟩ := give_get h
  have fx : ∀ i d, ss[i]? = some (Sl.o d) → σ'[i]? = (vs.map some)[i]? := fun i d e1 => by
    have hi : i < vs.length := by rw [← hl]; exact (List.getElem?_eq_some_iff.mp e1).1
    have := f i (by simp only [Bool.and_eq_true, decide_eq_true_eq, Bool.not_eq_true']; exact ⟨hi, hst i d e1⟩)
    rw [this, List.getElem?_append_left (by rw [List.length_map]; exact hi)]
  have un : ∀ {i : Nat} {s : Sl}, (r.map some)[i]? = some (some s) → r[i]? = some s := fun {i s} e => by
    rw [List.getElem?_map] at e
    cases q : r[i]? with
    | none => rw [q] at e; cases e
    | some t => rw [q] at e; cases e; rfl
  have ow : ∀ i a, owns (vs.map some) (r.map some) i a → owns σ' ρ' i a := fun i a ⟨e1, d, e2⟩ => by
    obtain ⟨s0, e3, h3⟩ := g i _ (un e2)
    rcases h3 with ⟨d', _, e4⟩ | ⟨d', e4, e5⟩
    · cases e4
    · subst e4
      rw [Nat.zero_add] at e5
      exact ⟨by rw [fx i d' e3]; exact e1, d, gt_some.mp e5⟩
  refine ⟨l.trans hl, ⟨S.sub, S.zf, by rw [List.length_map, List.length_map, l, hl], fun i s e1 => ?_, fun i a o => S.oz i a (ow i a o), fun i j a o1 o2 => S.dis i j a (ow i a o1) (ow j a o2)⟩, ow⟩
  obtain ⟨s0, e3, h3⟩ := g i _ (un e1)
  rcases h3 with ⟨d', e4, e5⟩ | ⟨d', e4, e5⟩
  · subst e4 e5
    obtain ⟨x, e6, r6⟩ := S0.slot i (.v d') (by rw [List.getElem?_map, e3]; rfl)
    exact ⟨x, e6, Rp.mono e.sub r6⟩
  · subst e4
    rw [Nat.zero_add] at e5
    obtain ⟨x, e6, r6⟩ := S.slot i s (gt_some.mp e5)
    rw [fx i d' e3] at e6
    exact ⟨x, e6, r6⟩
/-- a body does what its def promises -/
theorem body_ok {W : WX} {Q : VK} {E : XK} {C : Ss} {c : Fc} {Φ : PhiT} {t : TS} {vs : List V} {ss0 : List Sl} {F0 H0 : Hp} (hW : ∀ cls d σ H, E cls d H → W cls d σ H) (hl0 : ss0.length = c.np) (hlv : vs.length = c.np) (hn : c.np ≤ c.nl) (S0 : SR K FA Z (vs.map some) H0 (ss0.map some) F0)
    (rd : RdS K FA CA W (fun i => decide (i < c.np) && !c.st.contains i) t (evSs Φ c.body)) (p : PoF K FA CA Z vs H0 F0 c.np (runF Φ c ss0) Q E) : t { nx := fun _ H' => Q .non H', rt := Q } (vs.map some ++ List.replicate (c.nl - c.np) none) H0 := by
  obtain ⟨F1, e1, S1, S2⟩ := S0.begin c.st (c.nl - c.np)
  have hst : ∀ i d, (fzP c.st 0 ss0)[i]? = some (Sl.o d) → c.st.contains i = false := fun i d e => by
    rw [fzP_get, Nat.zero_add] at e
    cases q : ss0[i]? with
    | none => rw [q] at e; cases e
    | some s =>
      rw [q] at e
      by_cases h : c.st.contains i = true
      · rw [Option.map_some, if_pos h] at e
        cases e
      · simpa using h
  have hl : (fzP c.st 0 ss0).length = vs.length := by rw [fzP_len, hl0, hlv]
  unfold runF at p
  rw [if_pos hl0] at p
  refine rd Z _ H0 _ F1 _ S2 ?_
  dsimp only at p
  have fxv : ∀ {σ'}, Fixd (fun i => decide (i < c.np) && !c.st.contains i) (vs.map some ++ List.replicate (c.nl - c.np) none) σ' → Fixd (fun i => decide (i < vs.length) && !c.st.contains i) (vs.map some ++ List.replicate (c.nl - c.np) none) σ' := fun h => by rw [hlv]; exact h
  cases ho : evSs Φ c.body ((fzP c.st 0 ss0).map some ++ List.replicate (c.nl - c.np) none) with
  | nx ρ' =>
    rw [ho] at p
    dsimp only at p
    cases hg : give ρ' c.st 0 (fzP c.st 0 ss0) with
    | none =>
      rw [hg] at p
      exact p.elim
    | some r =>
      rw [hg] at p
      intro σ' H' F' e S f
      obtain ⟨g1, g2, g3⟩ := give_ok hl hst S1 e S (fxv f) hg
      exact p _ H' F' (g1.trans hlv) (e1.trans e) g2 (.v .non)
  | rt s ρ' =>
    rw [ho] at p
    dsimp only at p
    cases hg : give ρ' c.st 0 (fzP c.st 0 ss0) with
    | none =>
      rw [hg] at p
      exact p.elim
    | some r =>
      rw [hg] at p
      intro x σ' H' F' e S f rx
      obtain ⟨g1, g2, g3⟩ := give_ok hl hst S1 e S (fxv f) hg
      exact p _ H' F' (g1.trans hlv) (e1.trans e) g2 ⟨rx.1, fun a ea ed => ⟨(rx.2 a ea ed).1, fun i o => (rx.2 a ea ed).2 i (g3 i a o)⟩⟩
  | bk ρ' => rw [ho] at p; exact p.elim
  | ct ρ' => rw [ho] at p; exact p.elim
  | ex x ρ' =>
    rw [ho] at p
    dsimp only at p
    cases hg : give ρ' c.st 0 (fzP c.st 0 ss0) with
    | none =>
      rw [hg] at p
      exact p.elim
    | some r =>
      rw [hg] at p
      intro σ' H' F' e S f C hC ha
      obtain ⟨g1, g2, g3⟩ := give_ok hl hst S1 e S (fxv f) hg
      exact hW _ _ _ _ (p H' F' (g1.trans hlv) (e1.trans e) g2 C hC ha)
  | bad => rw [ho] at p; exact p.elim
end

/-! ### the whole text -/
def gaK (K : PySem.W.Frag) (x : Str) : Addr := match PySem.W.nsIn K mainGlobals x with
  | some (some (.ref a)) => a
  | _ => 0
def fdOf (K : PySem.W.Frag) (x : Str) : FuncData := match K.lookup (gaK K x) with
  | some ⟨_, _, .func fd, _⟩ => fd
  | _ => default
structure EntOk (K : PySem.W.Frag) (body : List Stmt) (e : Ent) : Prop where
  F : FunD K e.x e.x (defArgs (atTop body e.i)) (defBody (atTop body e.i)) (defScope (atTop body e.i)) (e.dfl.map V.int) [] (gaK K e.x) (fdOf K e.x)
  g : PySem.W.nsIn K mainGlobals e.x = some (some (.ref (gaK K e.x)))
  B : ∀ n, n ≤ e.dfl.length → ∃ ds, Binds K (fdOf K e.x) e.ps ds ∧ Vals ((e.dfl.drop n).map V.int) ds
  S : FnScope e.N e.ps (defScope (atTop body e.i))
  KB : ∀ m ∈ e.ks, KBok K (fdOf K e.x) e.ps m
def RowOk (K : PySem.W.Frag) (ents : List Ent) (FA CA : Nat → Option Addr) (x : Str) : GI → Prop
  | .blt => PySem.W.nsIn K mainGlobals x = some none
  | .cst d => ∃ u v, PySem.W.nsIn K mainGlobals x = some (some u) ∧ RelV v u ∧ ∀ F, Rp K FA F v d
  | .exc c => ∃ C, CA c = some C ∧ PySem.W.nsIn K mainGlobals x = some (some (.ref C)) ∧ ∃ B newId initId bmB, PySem.ExcBaseFacts B newId initId bmB ∧ PySem.W.excIn K C bmB newId = true ∧ PySem.W.keepIn K (.ref C) = true ∧
      PySem.W.subIn K (.ref C) (.type "BaseException") = some true ∧ PySem.W.typeIn K (.ref C) = some (.type "type") ∧ ExcC K C ∧ PySem.W.kitOne K (.ref C) (.type "ValueError") = some true
  | .fn f ps dfl ks => ∃ e ∈ ents, e.x = x ∧ e.f = f ∧ e.ps = ps ∧ e.dfl = dfl ∧ e.ks = ks
section
variable (P : Program) (w : World) (K : PySem.W.Frag) (mg : Str → Option Value) (base : Heap) (FA CA : Nat → Option Addr) (T : Nat → Option Fn) (ents : List Ent)
def Claim (k : Nat) : Prop := ∀ e ∈ ents, FnOk P w K mg base (L2.CX P w) (k + 1) (gaK K e.x) (fdOf K e.x) e.ps (spF K FA CA (Phi T k) e.f e.ps.length) ∧ ∀ ss, ss.length ≠ e.ps.length → Phi T k e.f ss = .bad
end
structure ProgOk (K : PySem.W.Frag) (body : List Stmt) (ents : List Ent) (tbl : List (Str × GI)) (T : Nat → Option Fn) (FA CA : Nat → Option Addr) : Prop where
  eo : ∀ e ∈ ents, EntOk K body e
  fa2 : ∀ e ∈ ents, FA e.f = some (gaK K e.x)
  rows : ∀ x g, tbl.lookup x = some g → RowOk K ents FA CA x g
  fa : ∀ f a, FA f = some a → ∃ e ∈ ents, e.f = f ∧ a = gaK K e.x
  xx : ∀ c c' D D', CA c = some D → CA c' = some D' → PySem.W.subIn K (.ref D) (.ref D') = some (decide (c = c'))
  np : ∀ e ∈ ents, e.ps.length ≤ e.N.length
  code : ∀ e ∈ ents, (∃ c, e.code tbl body = some c ∧ T e.f = some (.py ⟨e.ps.length, e.N.length, e.st, c⟩)) ∨
    (∃ g, T e.f = some (.nat g) ∧ (∀ Φ ss, ss.length ≠ e.ps.length → g Φ ss = .bad) ∧ ∀ (P : Program) (w : World) (mg : Str → Option Value) (base h : Heap) (k : Nat), K.In h → h.Ns mainGlobals mg → Claim P w K mg base FA CA T ents k →
      FnOk P w K mg base (L2.CX P w) (k + 1 + 1) (gaK K e.x) (fdOf K e.x) e.ps (spF K FA CA (Phi T (k + 1)) e.f e.ps.length))
section
variable {P : Program} {w : World} {K : PySem.W.Frag} {mg : Str → Option Value} {base h : Heap} {FA CA : Nat → Option Addr} {T : Nat → Option Fn} {ents : List Ent} {body : List Stmt} {tbl : List (Str × GI)} {k : Nat}
theorem gok (G : ProgOk K body ents tbl T FA CA) (KX : K.In h) (Gh : h.Ns mainGlobals mg) (cl : Claim P w K mg base FA CA T ents k) (X : Cx) (hP : X.prog = P) (hw : X.w = w) (hK : X.K = K) (hm : X.mg = mg) (hb : X.base = base) (hr : Room (k + 1) X.A) :
    (∀ x g, tbl.lookup x = some g → GOk X FA CA (Phi T k) x g) ∧
    ∀ f a, FA f = some a → ∃ ps k' fd, Room k' X.A ∧ PySem.W.keepIn X.K (.ref a) = true ∧ Binds X.K fd ps [] ∧ FnOk X.prog X.w X.K X.mg X.base (L2.CX X.prog X.w) k' a fd ps (spF X.K FA CA (Phi T k) f ps.length) ∧ ∀ ss, ss.length ≠ ps.length → Phi T k f ss = .bad := by
  subst hP hw hK hm hb
  have fa2 : ∀ f a, FA f = some a → ∃ ps k' fd, Room k' X.A ∧ PySem.W.keepIn X.K (.ref a) = true ∧ Binds X.K fd ps [] ∧ FnOk X.prog X.w X.K X.mg X.base (L2.CX X.prog X.w) k' a fd ps (spF X.K FA CA (Phi T k) f ps.length) ∧ ∀ ss, ss.length ≠ ps.length → Phi T k f ss = .bad := fun f a e1 => by
    obtain ⟨e, he, rfl, rfl⟩ := G.fa f a e1
    obtain ⟨ds, b1, b2⟩ := (G.eo e he).B e.dfl.length (Nat.le_refl _)
    rw [List.drop_length] at b2
    cases b2
    exact ⟨e.ps, k + 1, _, hr, (G.eo e he).F.kp, b1, (cl e he).1, (cl e he).2⟩
  refine ⟨fun x g hg => ?_, fa2⟩
  have r := G.rows x g hg
  cases g with
  | blt => exact PySem.W.mg_none_of KX Gh r
  | cst d =>
    obtain ⟨u, v, r1, r2, r3⟩ := r
    exact ⟨u, v, PySem.W.mg_of KX Gh r1, r2, r3⟩
  | exc c =>
    obtain ⟨C, r1, r2, r3⟩ := r
    exact ⟨C, r1, PySem.W.mg_of KX Gh r2, r3⟩
  | fn f ps dfl ks =>
    obtain ⟨e, he, rfl, rfl, rfl, rfl, rfl⟩ := r
    exact ⟨k + 1, gaK X.K e.x, fdOf X.K e.x, hr, PySem.W.mg_of KX Gh (G.eo e he).g, (G.eo e he).F.kp, G.fa2 e he, (cl e he).1, (cl e he).2, fun n hn => ⟨(G.eo e he).B n hn, (G.eo e he).KB⟩⟩
theorem claim_ok (G : ProgOk K body ents tbl T FA CA) (KX : K.In h) (Gh : h.Ns mainGlobals mg) : ∀ k, Claim P w K mg base FA CA T ents k
  | 0 => fun e he => ⟨⟨fun vs H Q E h => h.1, fun A outer s H args us vs Q E _ _ _ _ h => by
      obtain ⟨_, Z, F, ss, _, _, p⟩ := h
      exact p.elim⟩, fun _ _ => rfl⟩
  | k + 1 => fun e he => by
    have cl := claim_ok G KX Gh k
    rcases G.code e he with ⟨c, hc, hT⟩ | ⟨g, hT, hb, hn⟩
    · have hPhi : Phi T (k + 1) e.f = runF (Phi T k) ⟨e.ps.length, e.N.length, e.st, c⟩ := by
        funext ss
        rw [Phi]
        dsimp only
        rw [hT]
      refine ⟨(G.eo e he).F.ok (G.eo e he).S (fun vs H Q E h => h.1) fun cdv A outer s H vs Q E hr hsp => ?_, fun ss hl => ?_⟩
      · obtain ⟨hl, Z, F, ss, hl2, S0, p⟩ := hsp
        rw [hPhi] at p
        have hss : SSs (e.cc tbl (defScope (atTop body e.i))) (defBody (atTop body e.i)) c := cBody_ok hc
        obtain ⟨g1, g2⟩ := gok (P := P) (w := w) (base := base) G KX Gh cl (cxOf (L2.CX P w) P w K mg base e.N e.x (defScope (atTop body e.i)) (gaK K e.x) cdv A outer s H E) rfl rfl rfl rfl rfl hr
        have O : Ok (e.cc tbl (defScope (atTop body e.i))) (cxOf (L2.CX P w) P w K mg base e.N e.x (defScope (atTop body e.i)) (gaK K e.x) cdv A outer s H E) (fun cls d _ H => E cls d H) (Phi T k) FA CA :=
          { N := rfl, nd := (G.eo e he).S.nd, sc := rfl, calm := rfl, fnb := fun _ _ => rfl, tk := takes_of (E₁ := fun e' s'' => L2.CX P w outer H s E e' s'') rfl rfl rfl rfl, room := hr.mono (by omega), po := passes_of (K := fun e s'' => L2.CX P w outer H s E e s'') (E₁ := fun e' s'' => L2.CX P w outer H s E e' s'') rfl, gi := g1, fb := fun _ => ⟨rfl, rfl⟩, xx := G.xx, fa := g2 }
        obtain ⟨t, t1, t2⟩ := hss _ _ _ _ _ O
        refine ⟨t, t1, ?_⟩
        have := body_ok (C := c) (c := ⟨e.ps.length, e.N.length, e.st, c⟩) (W := fun cls d _ H => E cls d H) (fun _ _ _ _ h => h) hl2 hl (G.np e he) S0 t2 p
        unfold L2.start
        rw [hl]
        exact this
      · rw [hPhi]
        unfold runF
        rw [if_neg hl]
    · have hPhi : Phi T (k + 1) e.f = g (Phi T k) := by
        funext ss
        rw [Phi]
        dsimp only
        rw [hT]
      refine ⟨hn P w mg base h k KX Gh cl, fun ss hl => ?_⟩
      rw [hPhi]
      exact hb _ ss hl
end

/-! ### what is looked at in the written part -/
def fnObj (K : PySem.W.Frag) (x : Str) (st : Stmt) : Option Obj := match K.lookup (gaK K x) with
  | some ⟨oc, od, .func fd, osl⟩ => some ⟨oc, od, .func (PySem.W.fnOf x x (defArgs st) (defBody st) (defScope st) fd.defaults fd.kwdefaults fd.doc fd.pyModule fd.annotations fd.code fd.closureTuple), osl⟩
  | _ => none
def eqV (a b : Option (Option Value)) : Bool := decide (a = b)
def intsV : List Int → List Value → Bool
  | [], [] => true
  | i :: is, .int j _ :: vs => decide (j = i) && intsV is vs
  | _, _ => false
theorem intsV_ok : ∀ {is : List Int} {vs : List Value}, intsV is vs = true → Vals (is.map V.int) vs
  | [], [], _ => .nil
  | i :: is, .int j t :: vs, h => by
    rw [intsV, Bool.and_eq_true, decide_eq_true_eq] at h
    obtain ⟨rfl, h⟩ := h
    exact .cons ⟨t, rfl⟩ (intsV_ok h)
def dflB (K : PySem.W.Frag) (dfl : List Int) (dV : Value) : Bool :=
  match dfl, dV with
  | [], .none => true
  | _ :: _, .ref T => (match K.lookup T with
    | some ⟨_, _, .seq its _, _⟩ => intsV dfl its.toList
    | _ => false)
  | _, _ => false
theorem dflB_ok {K : PySem.W.Frag} {dfl : List Int} {dV : Value} (h : dflB K dfl dV = true) : DflV K dV (dfl.map V.int) := by
  unfold dflB at h
  split at h
  · exact .inl ⟨rfl, rfl⟩
  · split at h
    · rename_i i is T _ _ _ its n _ q
      exact .inr ⟨by simp, T, _, its.toList, n, rfl, q, rfl, intsV_ok h⟩
    · cases h
  · cases h
def scopeB (e : Ent) (sc : Scope) : Bool :=
  (match sc.kind with | .function => true | _ => false) && (!sc.isCoroutine && (!sc.isGenerator && (decide e.N.Nodup && (decide (e.N.take e.ps.length = e.ps) && ((e.ps.all fun x => kindIs sc x .local || kindIs sc x .cell) && (sc.names.all fun y => match y.2 with | .free => false | _ => true))))))
theorem scopeB_ok {e : Ent} {sc : Scope} (h : scopeB e sc = true) : FnScope e.N e.ps sc := by
  unfold scopeB at h
  simp only [Bool.and_eq_true, Bool.not_eq_true', decide_eq_true_eq, List.all_eq_true, Bool.or_eq_true] at h
  obtain ⟨h1, h2, h3, h4, h5, h6, h7⟩ := h
  refine ⟨?_, h2, h3, h4, h5, fun x hx => (h6 x hx).imp kind_of kind_of, fun y hy e => ?_⟩
  · split at h1
    · assumption
    · cases h1
  · have := h7 y hy
    rw [e] at this
    cases this
def entB (K : PySem.W.Frag) (body : List Stmt) (e : Ent) : Bool :=
  eqV (PySem.W.nsIn K mainGlobals e.x) (some (some (.ref (gaK K e.x)))) && (PySem.W.codeIn K (fdOf K e.x).code e.x && (PySem.W.keepIn K (.ref (gaK K e.x)) && (dflB K e.dfl (fdOf K e.x).defaults && (scopeB e (defScope (atTop body e.i)) && decide (e.ps.length ≤ e.N.length)))))
/-- how the arguments bind -/
def BindQ (body : List Stmt) (e : Ent) : Prop :=
  match e.dfl with
  | [] => ∀ (kV doc pm : Value) (an : Option Addr) (cdv ct : Value) (us : List Value), us.length = e.ps.length → bindArgs (PySem.W.fnOf e.x e.x (defArgs (atTop body e.i)) (defBody (atTop body e.i)) (defScope (atTop body e.i)) .none kV doc pm an cdv ct) ⟨us, []⟩ = pure (e.ps.zip us)
  | _ => ∀ j, j ≤ e.dfl.length → ∃ n, n + (e.dfl.length - j) = e.ps.length ∧ ∀ (T : Addr) (kV doc pm : Value) (an : Option Addr) (cdv ct : Value) (us its : List Value), us.length = n → its.length = e.dfl.length →
      ∃ k, bindArgs (PySem.W.fnOf e.x e.x (defArgs (atTop body e.i)) (defBody (atTop body e.i)) (defScope (atTop body e.i)) (.ref T) kV doc pm an cdv ct) ⟨us, []⟩ = seqItems? (.ref T) >>= k ∧ k (some its.toArray) = pure (e.ps.zip (us ++ its.drop j))
/-- how keywords bind -/
def BindK (body : List Stmt) (e : Ent) : Prop := e.ks = [] ∨ (e.dfl = [] ∧ ∀ m ∈ e.ks, ∀ (kV doc pm : Value) (an : Option Addr) (cdv ct : Value) (us ws : List Value), us.length = m → m + ws.length = e.ps.length →
  bindArgs (PySem.W.fnOf e.x e.x (defArgs (atTop body e.i)) (defBody (atTop body e.i)) (defScope (atTop body e.i)) .none kV doc pm an cdv ct) ⟨us, (e.ps.drop m).zip ws⟩ = pure (e.ps.zip (us ++ ws)))
def BindP (body : List Stmt) (e : Ent) : Prop := BindQ body e ∧ BindK body e
theorem fnObj_ok {K : PySem.W.Frag} {x : Str} {st : Stmt} {o : Obj} (hl : K.lookup (gaK K x) = fnObj K x st) (hs : (K.lookup (gaK K x)).isSome = true) : ∃ (oc : Value) (od : Option Addr) (osl : Array (Option Value)),
    fdOf K x = PySem.W.fnOf x x (defArgs st) (defBody st) (defScope st) (fdOf K x).defaults (fdOf K x).kwdefaults (fdOf K x).doc (fdOf K x).pyModule (fdOf K x).annotations (fdOf K x).code (fdOf K x).closureTuple ∧ K.lookup (gaK K x) = some ⟨oc, od, .func (fdOf K x), osl⟩ := by
  cases q : K.lookup (gaK K x) with
  | none => rw [q] at hs; cases hs
  | some ob =>
    obtain ⟨oc, od, data, osl⟩ := ob
    unfold fnObj at hl
    rw [q] at hl
    cases data with
    | func fd =>
      have e1 : fdOf K x = fd := by
        unfold fdOf
        rw [q]
      rw [e1]
      have hl : some (⟨oc, od, .func fd, osl⟩ : Obj) = some ⟨oc, od, .func (PySem.W.fnOf x x (defArgs st) (defBody st) (defScope st) fd.defaults fd.kwdefaults fd.doc fd.pyModule fd.annotations fd.code fd.closureTuple), osl⟩ := hl
      injection hl with hl
      injection hl with _ _ hl
      injection hl with hl
      exact ⟨oc, od, osl, hl, rfl⟩
    | _ => cases hl
theorem entOk_by {K : PySem.W.Frag} {body : List Stmt} {e : Ent} (hb : entB K body e = true) (hl : K.lookup (gaK K e.x) = fnObj K e.x (atTop body e.i)) (hB : BindP body e) : EntOk K body e ∧ e.ps.length ≤ e.N.length := by
  unfold entB at hb
  simp only [Bool.and_eq_true, decide_eq_true_eq] at hb
  obtain ⟨h1, h2, h3, h4, h5, h6⟩ := hb
  have hs : (K.lookup (gaK K e.x)).isSome = true := by
    unfold PySem.W.keepIn at h3
    cases q : K.lookup (gaK K e.x) with
    | none => simp only [q] at h3; cases h3
    | some _ => rfl
  obtain ⟨oc, od, osl, e1, e2⟩ := fnObj_ok (o := default) hl hs
  have F : FunD K e.x e.x (defArgs (atTop body e.i)) (defBody (atTop body e.i)) (defScope (atTop body e.i)) (e.dfl.map V.int) [] (gaK K e.x) (fdOf K e.x) :=
    ⟨⟨oc, od, _, _, _, _, _, _, _, osl, e1, e2, h2, dflB_ok h4, .inl rfl⟩, h3⟩
  obtain ⟨hB, hK⟩ := hB
  refine ⟨⟨F, of_decide_eq_true h1, fun n hn => ?_, scopeB_ok h5, fun m hm => ?_⟩, h6⟩
  rotate_left
  · rcases hK with hK | ⟨hd, hK⟩
    · rw [hK] at hm
      cases hm
    · intro s us ws _ l1 l2
      obtain ⟨oc', od', dV, kV, doc, pm, an, cdv, ct, osl', e3, _, _, hD, _⟩ := F.ex
      rcases hD with ⟨_, rfl⟩ | ⟨z, _⟩
      · rw [e3]
        exact .of_eq (hK m hm kV doc pm an cdv ct us ws l1 l2)
      · rw [hd] at z
        exact absurd rfl z
  unfold BindQ at hB
  split at hB
  · rename_i hd
    rw [hd] at F hn
    have : n = 0 := by simpa using hn
    subst this
    rw [hd]
    exact ⟨[], F.bindsN hB, .nil⟩
  · rename_i hd
    obtain ⟨m, h7, h8⟩ := hB n hn
    obtain ⟨ds, d1, d2⟩ := F.binds1 m n (by intro z; exact hd (List.map_eq_nil_iff.mp z)) (by rw [List.length_map]; exact h7) (fun T kV doc pm an cdv ct us its l1 l2 => h8 T kV doc pm an cdv ct us its l1 (by rw [l2, List.length_map]))
    refine ⟨ds, d2, ?_⟩
    rw [← List.map_drop] at d1
    exact d1
mutual
/-- a constant as the written part holds it -/
def repB (K : PySem.W.Frag) : D → Value → Bool
  | .non, .none => true
  | .bl b, .bool c => decide (b = c)
  | .int i, .int j _ => decide (i = j)
  | .str s, .str y _ => decide (y.cps.toList = s) && s.all fun c => decide (c < 1114112)
  | .tup ds, .ref a => (match K.lookup a with
    | some ⟨.type c, _, .seq its _, _⟩ => decide (c = "tuple") && (decide (its.size ≤ sizeLine) && repsB K ds its.toList)
    | _ => false)
  | _, _ => false
def repsB (K : PySem.W.Frag) : List D → List Value → Bool
  | [], [] => true
  | d :: ds, v :: vs => repB K d v && repsB K ds vs
  | _, _ => false
end
mutual
theorem repB_ok {K : PySem.W.Frag} : ∀ {d : D} {u : Value}, repB K d u = true → ∃ v, RelV v u ∧ ∀ FA F, Rp K FA F v d
  | .non, u, h => by
    cases u <;> first | (cases h; done) | skip
    exact ⟨.non, rfl, fun _ _ => .non⟩
  | .bl b, u, h => by
    cases u <;> first | (cases h; done) | skip
    rw [repB, decide_eq_true_eq] at h
    subst h
    exact ⟨.bl b, rfl, fun _ _ => .bl b⟩
  | .int i, u, h => by
    cases u <;> first | (cases h; done) | skip
    rw [repB, decide_eq_true_eq] at h
    subst h
    exact ⟨.int i, ⟨_, rfl⟩, fun _ _ => .int i⟩
  | .str s, u, h => by
    cases u <;> first | (cases h; done) | skip
    rename_i y t
    rw [repB, Bool.and_eq_true, decide_eq_true_eq, List.all_eq_true] at h
    obtain ⟨rfl, h⟩ := h
    exact ⟨.str y, ⟨t, rfl⟩, fun _ _ => Rp.str y.cps.toList fun c hc => by simpa using h c hc⟩
  | .tup ds, u, h => by
    cases u <;> first | (cases h; done) | skip
    rename_i a
    rw [repB] at h
    split at h
    · rename_i c od its n osl q
      simp only [Bool.and_eq_true, decide_eq_true_eq] at h
      obtain ⟨h1, h2, h3⟩ := h
      obtain ⟨vs, r1, r2⟩ := repsB_ok h3
      subst h1
      exact ⟨.ref a, rfl, fun FA F => .tup (.inr ⟨_, its, n, q, rfl, rfl, h2, r1⟩) (r2 FA F)⟩
    · cases h
  | .lst _, u, h => by cases u <;> cases h
  | .scr _, u, h => by cases u <;> cases h
  | .fn _, u, h => by cases u <;> cases h
  | .dic _, u, h => by cases u <;> cases h
theorem repsB_ok {K : PySem.W.Frag} : ∀ {ds : List D} {us : List Value}, repsB K ds us = true → ∃ vs, Vals vs us ∧ ∀ FA F, Rps K FA F vs ds
  | [], [], _ => ⟨[], .nil, fun _ _ => .nil⟩
  | [], _ :: _, h => by cases h
  | _ :: _, [], h => by cases h
  | d :: ds, u :: us, h => by
    rw [repsB, Bool.and_eq_true] at h
    obtain ⟨v, r1, r2⟩ := repB_ok h.1
    obtain ⟨vs, r3, r4⟩ := repsB_ok h.2
    exact ⟨v :: vs, .cons r1 r3, fun FA F => .cons (r2 FA F) (r4 FA F)⟩
end
/-- the exceptions: their numbers, their names -/
def caOf (K : PySem.W.Frag) (excs : List (Nat × Str)) (c : Nat) : Option Addr := (excs.lookup c).map (gaK K)
def faOf (K : PySem.W.Frag) (ents : List Ent) (f : Nat) : Option Addr := (ents.find? fun e => e.f == f).map fun e => gaK K e.x
def excB (K : PySem.W.Frag) (C : Addr) : Bool :=
  eqV (PySem.W.findIn K (.ref C) "__getattribute__") (some (some (.builtin "BaseException.__getattribute__"))) && (eqV (PySem.W.findIn K (.ref C) "__getattr__") (some none) && (decide (PySem.W.subIn K (.ref C) (.type "BaseException") = some true) && (PySem.W.hasDictIn K C &&
  (eqV (PySem.W.findIn K (.ref C) "__class__") (some (some (.builtin "object.__class__"))) && (eqV (PySem.W.specialIn K (.builtin "object.__class__") "__get__") (some (some (.builtin "getset_descriptor.__get__"))) && (decide (PySem.W.takesIn K (.builtin "object.__class__") = some true) && (decide (PySem.W.mroIn K C (.type "object") = some true) &&
  decide (PySem.W.kitOne K (.ref C) (.type "ValueError") = some true))))))))
theorem excB_ok {K : PySem.W.Frag} {C : Addr} (h : excB K C = true) : ExcC K C ∧ PySem.W.kitOne K (.ref C) (.type "ValueError") = some true := by
  unfold excB at h
  simp only [Bool.and_eq_true, decide_eq_true_eq] at h
  obtain ⟨h1, h2, h3, h4, h5, h6, h7, h8, h9⟩ := h
  exact ⟨⟨of_decide_eq_true h1, of_decide_eq_true h2, h3, h4, of_decide_eq_true h5, of_decide_eq_true h6, h7, h8⟩, h9⟩
def veB : List Value := [.type "ValueError", .type "Exception", .type "BaseException", .type "object"]
def rowB (K : PySem.W.Frag) (ents : List Ent) (excs : List (Nat × Str)) (x : Str) : GI → Bool
  | .blt => eqV (PySem.W.nsIn K mainGlobals x) (some none)
  | .cst d => (match PySem.W.nsIn K mainGlobals x with
    | some (some u) => repB K d u
    | _ => false)
  | .exc c => decide (excs.lookup c = some x) && (eqV (PySem.W.nsIn K mainGlobals x) (some (some (.ref (gaK K x)))) && (PySem.W.excIn K (gaK K x) veB "ValueError.__new__" && (PySem.W.keepIn K (.ref (gaK K x)) && (decide (PySem.W.subIn K (.ref (gaK K x)) (.type "BaseException") = some true) && (decide (PySem.W.typeIn K (.ref (gaK K x)) = some (.type "type")) && excB K (gaK K x))))))
  | .fn f ps dfl ks => ents.any fun e => decide (e.x = x) && (e.f == f && (decide (e.ps = ps) && (decide (e.dfl = dfl) && decide (e.ks = ks))))

theorem rowB_ok {K : PySem.W.Frag} {ents : List Ent} {excs : List (Nat × Str)} {x : Str} {FA : Nat → Option Addr} {g : GI} (h : rowB K ents excs x g = true) : RowOk K ents FA (caOf K excs) x g := by
  cases g with
  | blt =>
    have h : eqV (PySem.W.nsIn K mainGlobals x) (some none) = true := h
    exact (of_decide_eq_true h : PySem.W.nsIn K mainGlobals x = some none)
  | cst d =>
    have h : (match PySem.W.nsIn K mainGlobals x with | some (some u) => repB K d u | _ => false) = true := h
    cases q : PySem.W.nsIn K mainGlobals x with
    | none => rw [q] at h; cases h
    | some o =>
      cases o with
      | none => rw [q] at h; cases h
      | some u =>
        rw [q] at h
        obtain ⟨v, r1, r2⟩ := repB_ok h
        exact ⟨u, v, q, r1, r2 _⟩
  | exc c =>
    have h : (decide (excs.lookup c = some x) && (eqV (PySem.W.nsIn K mainGlobals x) (some (some (.ref (gaK K x)))) && (PySem.W.excIn K (gaK K x) veB "ValueError.__new__" && (PySem.W.keepIn K (.ref (gaK K x)) && (decide (PySem.W.subIn K (.ref (gaK K x)) (.type "BaseException") = some true) && (decide (PySem.W.typeIn K (.ref (gaK K x)) = some (.type "type")) && excB K (gaK K x))))))) = true := h
    simp only [Bool.and_eq_true, decide_eq_true_eq] at h
    obtain ⟨h1, h2, h3, h4, h5, h6, h7⟩ := h
    exact ⟨gaK K x, by unfold caOf; rw [h1]; rfl, of_decide_eq_true h2, _, _, _, _, PySem.F.excBase_ValueError, h3, h4, h5, h6, excB_ok h7⟩
  | fn f ps dfl ks =>
    have h : (ents.any fun e => decide (e.x = x) && (e.f == f && (decide (e.ps = ps) && (decide (e.dfl = dfl) && decide (e.ks = ks))))) = true := h
    rw [List.any_eq_true] at h
    obtain ⟨e, he, h⟩ := h
    simp only [Bool.and_eq_true, decide_eq_true_eq, beq_iff_eq] at h
    exact ⟨e, he, h⟩
theorem rows_ok {K : PySem.W.Frag} {ents : List Ent} {excs : List (Nat × Str)} {FA : Nat → Option Addr} {tbl : List (Str × GI)} (h : (tbl.all fun r => rowB K ents excs r.1 r.2) = true) (x : Str) (g : GI) (hg : tbl.lookup x = some g) : RowOk K ents FA (caOf K excs) x g := by
  have hm : ∃ r ∈ tbl, r.1 = x ∧ r.2 = g := by
    induction tbl with
    | nil => cases hg
    | cons r tbl ih =>
      obtain ⟨y, g'⟩ := r
      rw [List.lookup_cons] at hg
      split at hg
      · rename_i q
        cases hg
        exact ⟨_, List.mem_cons_self .., (beq_iff_eq.mp q).symm, rfl⟩
      · rw [List.all_cons, Bool.and_eq_true] at h
        obtain ⟨r, hr, e1, e2⟩ := ih h.2 hg
        exact ⟨r, List.mem_cons_of_mem _ hr, e1, e2⟩
  obtain ⟨r, hr, rfl, rfl⟩ := hm
  exact rowB_ok (List.all_eq_true.mp h r hr)
theorem faOf_mem {K : PySem.W.Frag} {ents : List Ent} {f : Nat} {a : Addr} (h : faOf K ents f = some a) : ∃ e ∈ ents, e.f = f ∧ a = gaK K e.x := by
  unfold faOf at h
  obtain ⟨e, he, rfl⟩ := Option.map_eq_some_iff.mp h
  have := List.find?_some he
  exact ⟨e, List.mem_of_find?_eq_some he, by simpa using this, rfl⟩
theorem faOf_of {K : PySem.W.Frag} {ents : List Ent} (hn : (ents.map Ent.f).Nodup) {e : Ent} (he : e ∈ ents) : faOf K ents e.f = some (gaK K e.x) := by
  unfold faOf
  induction ents with
  | nil => cases he
  | cons d ents ih =>
    rw [List.map_cons, List.nodup_cons] at hn
    rw [List.find?_cons]
    rcases List.mem_cons.mp he with rfl | he
    · simp
    · have : (d.f == e.f) = false := by
        rw [beq_eq_false_iff_ne]
        intro q
        exact hn.1 (by rw [q]; exact List.mem_map_of_mem he)
      rw [this]
      exact ih hn.2 he
/-- no class is the other's -/
def xxB (K : PySem.W.Frag) (excs : List (Nat × Str)) : Bool := excs.all fun a => excs.all fun b => decide (PySem.W.subIn K (.ref (gaK K a.2)) (.ref (gaK K b.2)) = some (decide (a.1 = b.1)))
theorem xxB_ok {K : PySem.W.Frag} {excs : List (Nat × Str)} (h : xxB K excs = true) (c c' : Nat) (D D' : Addr) (h1 : caOf K excs c = some D) (h2 : caOf K excs c' = some D') : PySem.W.subIn K (.ref D) (.ref D') = some (decide (c = c')) := by
  have key : ∀ {c : Nat} {D : Addr} (l : List (Nat × Str)), (l.lookup c).map (gaK K) = some D → ∃ x, (c, x) ∈ l ∧ D = gaK K x := fun {c D} l e => by
    induction l with
    | nil => cases e
    | cons r l ih =>
      obtain ⟨k, y⟩ := r
      rw [List.lookup_cons] at e
      split at e
      · rename_i q
        cases e
        exact ⟨y, by rw [beq_iff_eq.mp q]; exact List.mem_cons_self .., rfl⟩
      · obtain ⟨x, m, e'⟩ := ih e
        exact ⟨x, List.mem_cons_of_mem _ m, e'⟩
  obtain ⟨x, m, rfl⟩ := key excs h1
  obtain ⟨x', m', rfl⟩ := key excs h2
  have := List.all_eq_true.mp (List.all_eq_true.mp h _ m) _ m'
  exact of_decide_eq_true this
/-- the codes that the table holds -/
def codesB (T : Nat → Option Fn) (ents : List Ent) : Prop := True
theorem progOk_by {K : PySem.W.Frag} {body : List Stmt} {ents : List Ent} {tbl : List (Str × GI)} {excs : List (Nat × Str)} {T : Nat → Option Fn} (hn : (ents.map Ent.f).Nodup) (he : ∀ e ∈ ents, EntOk K body e ∧ e.ps.length ≤ e.N.length) (hr : (tbl.all fun r => rowB K ents excs r.1 r.2) = true) (hx : xxB K excs = true)
    (hc : ∀ e ∈ ents, (∃ c, e.code tbl body = some c ∧ T e.f = some (.py ⟨e.ps.length, e.N.length, e.st, c⟩)) ∨
      (∃ g, T e.f = some (.nat g) ∧ (∀ Φ ss, ss.length ≠ e.ps.length → g Φ ss = .bad) ∧ ∀ (P : Program) (w : World) (mg : Str → Option Value) (base h : Heap) (k : Nat), K.In h → h.Ns mainGlobals mg → Claim P w K mg base (faOf K ents) (caOf K excs) T ents k →
        FnOk P w K mg base (L2.CX P w) (k + 1 + 1) (gaK K e.x) (fdOf K e.x) e.ps (spF K (faOf K ents) (caOf K excs) (Phi T (k + 1)) e.f e.ps.length))) : ProgOk K body ents tbl T (faOf K ents) (caOf K excs) where
  eo := fun e h => (he e h).1
  fa2 := fun e h => faOf_of hn h
  rows := rows_ok hr
  fa := fun f a h => faOf_mem h
  xx := xxB_ok hx
  np := fun e h => (he e h).2
  code := hc
/-! ### the law -/
theorem law_F {P : Program} {w : World} {K : PySem.W.Frag} {mg : Str → Option Value} {fa : Addr} {h : Heap} {body : List Stmt} {ents : List Ent} {tbl : List (Str × GI)} {excs : List (Nat × Str)} {T : Nat → Option Fn} {e : Ent} {x d : Str} (k : Nat)
    (G : ProgOk K body ents tbl T (faOf K ents) (caOf K excs)) (KX : K.In h) (Gh : h.Ns mainGlobals mg) (hmg : mg d = some (.ref fa)) (he : e ∈ ents) (hx : e.x = d) (hps : e.ps = [x]) (hd : e.dfl = []) (hB : BindP body e) :
    ∃ fd : FuncData, (∀ (s : Shared) (u : Value), BindsTo s fd ⟨[u], []⟩ [(x, u)]) ∧ ∀ base : Heap, K.In base → base.Ns mainGlobals mg → FnOk P w K mg base (L2.CX P w) (k + 1) fa fd [x] (spF K (faOf K ents) (caOf K excs) (Phi T k) e.f 1) := by
  have e1 : fa = gaK K e.x := by
    have := PySem.W.mg_of KX Gh (G.eo e he).g
    rw [hx, hmg] at this
    cases this
    rw [hx]
  subst e1
  refine ⟨fdOf K e.x, fun s u => ?_, fun base _ _ => ?_⟩
  · have F := (G.eo e he).F
    rw [hd] at F
    have hB := hB.1
    unfold BindQ at hB
    rw [hd] at hB
    have := F.bindsA (ps := e.ps) hB s [u] (by rw [hps]; rfl)
    rw [hps] at this
    exact this
  · have := (claim_ok (P := P) (w := w) (base := base) G KX Gh k e he).1
    rw [hps] at this
    exact this
theorem law_sp {K : PySem.W.Frag} {FA CA : Nat → Option Addr} {T : Nat → Option Fn} {f k n : Nat} (hl : ∀ ns : List Int, ns.length ≤ n → ∃ ss, Phi T k f [.v (.scr (ns.map .int))] = .ok (.v (.bl true)) ss) (H : Hp) (a : Addr) (ns : List Int) (h1 : ns.length ≤ n) (h2 : SqL K H a (ns.map V.int)) :
    spF K FA CA (Phi T k) f 1 [.ref a] H (fun v _ => v = .bl true) fun _ _ _ => False := by
  refine ⟨rfl, fun _ => False, H, [.v (.scr (ns.map .int))], rfl, ⟨.refl, fun a z => z.elim, rfl, fun i s e => ?_, fun i a o z => z, fun i j a o => ?_⟩, ?_⟩
  · cases i with
    | zero =>
      cases e
      exact ⟨.ref a, rfl, .scr h2 (ints_rps ns)⟩
    | succ i => simp at e
  · obtain ⟨_, d, e⟩ := o
    cases i with
    | zero => cases e
    | succ i => simp at e
  · obtain ⟨ss, e⟩ := hl ns h1
    rw [e]
    intro v H' F' _ _ _ r
    have r : Rp K FA F' v (.bl true) := r.1
    cases r
    rfl
theorem law_cx {P : Program} {w : World} {H : Hp} {s : Shared} {e : Value} {s' : Shared} (h : L2.CX P w [] H s (fun _ _ _ => False) e s') : False := by
  obtain ⟨_, _, _, _, _, _, _, _, _, _, _, _, z⟩ := h
  exact z
theorem all_cons {α : Type} {p : α → Prop} {a : α} {l : List α} (h : p a) (hs : ∀ x ∈ l, p x) : ∀ x ∈ a :: l, p x := fun x hx => by
  rcases List.mem_cons.mp hx with rfl | hx
  · exact h
  · exact hs x hx
theorem all_nil {α : Type} {p : α → Prop} : ∀ x ∈ ([] : List α), p x := fun x hx => by cases hx

/-- of all lists so long -/
def AllN : Nat → (List Value → Prop) → Prop
  | 0, p => p []
  | n + 1, p => ∀ u : Value, AllN n fun us => p (u :: us)
theorem allN_ok : ∀ {n : Nat} {p : List Value → Prop}, AllN n p → ∀ us, us.length = n → p us
  | 0, p, h, [], _ => h
  | n + 1, p, h, u :: us, hl => allN_ok (h u) us (Nat.succ.inj hl)
theorem bind_n {body : List Stmt} {e : Ent} (n : Nat) (hd : e.dfl = []) (hp : e.ps.length = n)
    (h : AllN n fun us => ∀ (kV doc pm : Value) (an : Option Addr) (cdv ct : Value), bindArgs (PySem.W.fnOf e.x e.x (defArgs (atTop body e.i)) (defBody (atTop body e.i)) (defScope (atTop body e.i)) .none kV doc pm an cdv ct) ⟨us, []⟩ = pure (e.ps.zip us)) (hk : BindK body e := by exact .inl rfl) : BindP body e := by
  refine ⟨?_, hk⟩
  unfold BindQ
  rw [hd]
  intro kV doc pm an cdv ct us hl
  exact allN_ok h us (hl.trans hp) kV doc pm an cdv ct
/-- one default: the last parameter's -/
theorem bind_d {body : List Stmt} {e : Ent} (n : Nat) (i : Int) (hd : e.dfl = [i]) (hp : e.ps.length = n + 1)
    (h : AllN n fun us => ∀ (v : Value) (T : Addr) (kV doc pm : Value) (an : Option Addr) (cdv ct : Value), ∃ k, bindArgs (PySem.W.fnOf e.x e.x (defArgs (atTop body e.i)) (defBody (atTop body e.i)) (defScope (atTop body e.i)) (.ref T) kV doc pm an cdv ct) ⟨us, []⟩ = seqItems? (.ref T) >>= k ∧ k (some #[v]) = pure (e.ps.zip (us ++ [v])))
    (h2 : AllN (n + 1) fun us => ∀ (v : Value) (T : Addr) (kV doc pm : Value) (an : Option Addr) (cdv ct : Value), ∃ k, bindArgs (PySem.W.fnOf e.x e.x (defArgs (atTop body e.i)) (defBody (atTop body e.i)) (defScope (atTop body e.i)) (.ref T) kV doc pm an cdv ct) ⟨us, []⟩ = seqItems? (.ref T) >>= k ∧ k (some #[v]) = pure (e.ps.zip (us ++ []))) (hk : BindK body e := by exact .inl rfl) : BindP body e := by
  refine ⟨?_, hk⟩
  unfold BindQ
  rw [hd]
  intro j hj
  have hj : j ≤ 1 := hj
  rcases Nat.le_one_iff_eq_zero_or_eq_one.mp hj with rfl | rfl
  · refine ⟨n, by rw [hp]; rfl, fun T kV doc pm an cdv ct us its l1 l2 => ?_⟩
    match its, l2 with
    | [v], _ => exact allN_ok h us l1 v T kV doc pm an cdv ct
  · refine ⟨n + 1, by rw [hp]; rfl, fun T kV doc pm an cdv ct us its l1 l2 => ?_⟩
    match its, l2 with
    | [v], _ => exact allN_ok h2 us l1 v T kV doc pm an cdv ct

/-! ### facts of keywords -/
theorem allC0 {p : Nat → Prop} {a : Nat} {l : List Nat} (h : p a) (hs : ∀ x ∈ l, p x) : ∀ x ∈ a :: l, p x := all_cons h hs
theorem allE0 {p : Nat → Prop} : ∀ x ∈ ([] : List Nat), p x := all_nil
theorem kb_of {body : List Stmt} {e : Ent} (m k : Nat) (h : ∀ (kV doc pm : Value) (an : Option Addr) (cdv ct : Value), AllN m fun us => AllN k fun ws =>
    bindArgs (PySem.W.fnOf e.x e.x (defArgs (atTop body e.i)) (defBody (atTop body e.i)) (defScope (atTop body e.i)) .none kV doc pm an cdv ct) ⟨us, (e.ps.drop m).zip ws⟩ = pure (e.ps.zip (us ++ ws))) (hp : e.ps.length = m + k := by rfl) :
    ∀ (kV doc pm : Value) (an : Option Addr) (cdv ct : Value) (us ws : List Value), us.length = m → m + ws.length = e.ps.length →
      bindArgs (PySem.W.fnOf e.x e.x (defArgs (atTop body e.i)) (defBody (atTop body e.i)) (defScope (atTop body e.i)) .none kV doc pm an cdv ct) ⟨us, (e.ps.drop m).zip ws⟩ = pure (e.ps.zip (us ++ ws)) :=
  fun kV doc pm an cdv ct us ws l1 l2 => allN_ok (allN_ok (h kV doc pm an cdv ct) us l1) ws (by omega)
end Rf

/-! Pu0: running the evaluator by simp. -/
namespace Rf
theorem R.bind_congr {α β : Type} {r r' : R α} {f : α → Env → R β} (h : r = r') : r.bind f = r'.bind f := by rw [h]
theorem R.stm_congr {α : Type} {r r' : R α} {f : α → Env → O} (h : r = r') : r.stm f = r'.stm f := by rw [h]
theorem O.andThen_congr {r r' : O} {f : Env → O} (h : r = r') : r.andThen f = r'.andThen f := by rw [h]
@[simp] theorem R.stm_ok {α : Type} (a : α) (ρ : Env) (f : α → Env → O) : (R.ok a ρ).stm f = f a ρ := id rfl
@[simp] theorem R.stm_ex {α : Type} (x : Xc) (ρ : Env) (f : α → Env → O) : (R.ex x ρ : R α).stm f = .ex x ρ := id rfl
@[simp] theorem R.stm_bad {α : Type} (f : α → Env → O) : (R.bad : R α).stm f = .bad := id rfl
@[simp] theorem O.then_nx (ρ : Env) (f : Env → O) : (O.nx ρ).andThen f = f ρ := id rfl
@[simp] theorem O.then_rt (s : Sl) (ρ : Env) (f : Env → O) : (O.rt s ρ).andThen f = .rt s ρ := id rfl
@[simp] theorem O.then_bk (ρ : Env) (f : Env → O) : (O.bk ρ).andThen f = .bk ρ := id rfl
@[simp] theorem O.then_ct (ρ : Env) (f : Env → O) : (O.ct ρ).andThen f = .ct ρ := id rfl
@[simp] theorem O.then_ex (x : Xc) (ρ : Env) (f : Env → O) : (O.ex x ρ).andThen f = .ex x ρ := id rfl
@[simp] theorem O.then_bad (f : Env → O) : O.bad.andThen f = .bad := id rfl
@[simp] theorem gt_zero (s : Option Sl) (ρ : Env) : gt (s :: ρ) 0 = s := by cases s <;> rfl
@[simp] theorem gt_succ (s : Option Sl) (ρ : Env) (i : Nat) : gt (s :: ρ) (i + 1) = gt ρ i := rfl
@[simp] theorem fz_zero_o (d : D) (ρ : Env) : fz (some (.o d) :: ρ) 0 = some (.v d) :: ρ := rfl
@[simp] theorem fz_zero_v (d : D) (ρ : Env) : fz (some (.v d) :: ρ) 0 = some (.v d) :: ρ := rfl
@[simp] theorem fz_zero_n (ρ : Env) : fz (none :: ρ) 0 = none :: ρ := rfl
@[simp] theorem fz_succ (s : Option Sl) (ρ : Env) (i : Nat) : fz (s :: ρ) (i + 1) = s :: fz ρ i := by
  unfold fz
  rw [gt_succ]
  cases gt ρ i with
  | none => rfl
  | some t => cases t <;> rfl
@[simp] theorem ofOE_some (ρ : Env) : ofOE (some ρ) = .nx ρ := id rfl
@[simp] theorem asg_nm (i : Nat) (s : Sl) (ρ : Env) : asg (.nm i) s ρ = some (ρ.set i (some s)) := rfl
@[simp] theorem asg_tup (ts : List Tg) (ds : List D) (ρ : Env) : asg (.tup ts) (.v (.tup ds)) ρ = asgs ts ds ρ := rfl
@[simp] theorem asgs_nil (ρ : Env) : asgs [] [] ρ = some ρ := rfl
@[simp] theorem asgs_cons (t : Tg) (ts : List Tg) (d : D) (ds : List D) (ρ : Env) : asgs (t :: ts) (d :: ds) ρ = (asg t (.v d) ρ).bind fun ρ => asgs ts ds ρ := rfl
@[simp] theorem rs_l (ρ : Env) (i : Nat) : rs ρ (.inl i) = (gt ρ i).map Sl.d := rfl
@[simp] theorem rs_r (ρ : Env) (d : D) : rs ρ (.inr d) = some d := rfl
section
variable (Φ : PhiT) (ρ : Env)
@[simp] theorem ss_n : evSs Φ .nil ρ = .nx ρ := by rw [evSs]
@[simp] theorem ss_c (s : S) (ss : Ss) : evSs Φ (.cons s ss) ρ = (evS Φ s ρ).andThen fun ρ => evSs Φ ss ρ := by rw [evSs]
end

theorem mulOk_l {i j : Int} (h : i.natAbs < 18446744073709551616) : mulOk i j = true := by
  unfold mulOk
  rw [decide_eq_true h]
  rfl
theorem mulOk_r {i j : Int} (h : j.natAbs < 18446744073709551616) : mulOk i j = true := by
  unfold mulOk
  rw [decide_eq_true h]
  simp
theorem log_small {m : Int} (h : m.natAbs < 18446744073709551616) : ¬ 9000 ≤ m.natAbs.log2 := by
  intro h2
  by_cases h0 : m.natAbs = 0
  · rw [h0] at h2
    exact absurd h2 (by decide)
  · have := (Nat.le_log2 h0).mp h2
    have h3 : (2 : Nat) ^ 64 ≤ 2 ^ 9000 := Nat.pow_le_pow_right (by decide) (Nat.le_of_ble_eq_true rfl)
    exact absurd (Nat.le_trans h3 this) (Nat.not_le.mpr h)
section
variable (i j : Int)
@[simp] theorem bin_add : binD .add (.int i) (.int j) = some (.v (.int (i + j))) := rfl
@[simp] theorem bin_sub : binD .sub (.int i) (.int j) = some (.v (.int (i - j))) := rfl
@[simp] theorem bin_mul (h : mulOk i j = true) : binD .mul (.int i) (.int j) = some (.v (.int (i * j))) := if_pos h
@[simp] theorem bin_mul_l (h : i.natAbs < 18446744073709551616) : binD .mul (.int i) (.int j) = some (.v (.int (i * j))) := if_pos (mulOk_l h)
@[simp] theorem bin_mul_r (h : j.natAbs < 18446744073709551616) : binD .mul (.int i) (.int j) = some (.v (.int (i * j))) := if_pos (mulOk_r h)
@[simp] theorem bin_fdiv (h0 : ¬ j = 0) (h1 : j.natAbs < 18446744073709551616) : binD .fdiv (.int i) (.int j) = some (.v (.int (i.fdiv j))) := if_neg (fun h => h.elim h0 (log_small h1))
@[simp] theorem bin_mod (h0 : ¬ j = 0) : binD .mod (.int i) (.int j) = some (.v (.int (i.fmod j))) := if_neg h0
@[simp] theorem bin_adds (x y : List Nat) (h : x.length + y.length ≤ SZ) : binD .add (.str x) (.str y) = some (.v (.str (x ++ y))) := if_pos h
@[simp] theorem bin_addt (x y : List D) (h : x.length + y.length ≤ SZ) : binD .add (.tup x) (.tup y) = some (.v (.tup (x ++ y))) := if_pos h
@[simp] theorem bin_addl (x y : List D) (h : x.length + y.length ≤ SZ) : binD .add (.lst x) (.lst y) = some (.o (.lst (x ++ y))) := if_pos h
@[simp] theorem cmp_lt : cmpD .lt (.int i) (.int j) = some (decide (i < j)) := rfl
@[simp] theorem cmp_le : cmpD .le (.int i) (.int j) = some (decide (i ≤ j)) := rfl
@[simp] theorem cmp_gt : cmpD .gt (.int i) (.int j) = some (decide (j < i)) := rfl
@[simp] theorem cmp_ge : cmpD .ge (.int i) (.int j) = some (decide (j ≤ i)) := rfl
@[simp] theorem cmp_eq : cmpD .eq (.int i) (.int j) = some (decide (i = j)) := rfl
@[simp] theorem cmp_ne : cmpD .ne (.int i) (.int j) = some (!decide (i = j)) := rfl
@[simp] theorem ix_lst (ds : List D) : ixD (.lst ds) (.int i) = atI ds i := rfl
@[simp] theorem ix_tup (ds : List D) : ixD (.tup ds) (.int i) = atI ds i := rfl
@[simp] theorem ix_scr (ds : List D) : ixD (.scr ds) (.int i) = atI ds i := rfl
@[simp] theorem at_0 {α : Type} (d : α) (ds : List α) : atI (d :: ds) 0 = some d := by simp [atI, ixN]
@[simp] theorem at_1 {α : Type} (d e : α) (ds : List α) : atI (d :: e :: ds) 1 = some e := by
  unfold atI ixN
  rw [if_pos (by decide), if_pos (by simp only [List.length_cons]; omega)]
  rfl
@[simp] theorem at_2 {α : Type} (d e f : α) (ds : List α) : atI (d :: e :: f :: ds) 2 = some f := by
  unfold atI ixN
  rw [if_pos (by decide), if_pos (by simp only [List.length_cons]; omega)]
  rfl
@[simp] theorem at_3 {α : Type} (d e f g : α) (ds : List α) : atI (d :: e :: f :: g :: ds) 3 = some g := by
  unfold atI ixN
  rw [if_pos (by decide), if_pos (by simp only [List.length_cons]; omega)]
  rfl
theorem at_nat {α : Type} (ds : List α) (n : Nat) : atI ds (n : Int) = ds[n]? := by
  unfold atI ixN
  rw [if_pos (by omega)]
  by_cases h : n < ds.length
  · rw [if_pos (by omega)]
    rfl
  · rw [if_neg (by omega), List.getElem?_eq_none (by omega)]
    rfl
@[simp] theorem bi_len_lst (ds : List D) : biD .len (.lst ds) = some (.v (.int ds.length)) := rfl
@[simp] theorem bi_len_tup (ds : List D) : biD .len (.tup ds) = some (.v (.int ds.length)) := rfl
@[simp] theorem bi_len_scr (ds : List D) : biD .len (.scr ds) = some (.v (.int ds.length)) := rfl
@[simp] theorem bi_abs_int : biD .abs (.int i) = some (.v (.int (if i < 0 then -i else i))) := rfl
@[simp] theorem bi_int_int : biD .int (.int i) = some (.v (.int i)) := rfl
@[simp] theorem bi_int_bl (b : Bool) : biD .int (.bl b) = some (.v (.int (if b then 1 else 0))) := rfl
@[simp] theorem bi_tuple_lst (ds : List D) : biD .tuple (.lst ds) = some (.v (.tup ds)) := rfl
@[simp] theorem bi_tuple_tup (ds : List D) : biD .tuple (.tup ds) = some (.v (.tup ds)) := rfl
@[simp] theorem bi_list_lst (ds : List D) : biD .list (.lst ds) = some (.o (.lst ds)) := rfl
@[simp] theorem bi_list_tup (ds : List D) : biD .list (.tup ds) = some (.o (.lst ds)) := rfl
@[simp] theorem bi_list_scr (ds : List D) : biD .list (.scr ds) = some (.o (.lst ds)) := rfl
@[simp] theorem tru_bl (b : Bool) : tru (.bl b) = some b := rfl
@[simp] theorem tru_lst (ds : List D) : tru (.lst ds) = some (!ds.isEmpty) := rfl
@[simp] theorem tru_tup (ds : List D) : tru (.tup ds) = some (!ds.isEmpty) := rfl
@[simp] theorem tru_int : tru (.int i) = some (i != 0) := rfl
@[simp] theorem intO_int : intO (.int i) = some i := rfl
end

/-! ### a body in parts -/
def Ss.takeN : Nat → Ss → Ss
  | 0, _ => .nil
  | _ + 1, .nil => .nil
  | n + 1, .cons s ss => .cons s (ss.takeN n)
def Ss.dropN : Nat → Ss → Ss
  | 0, ss => ss
  | _ + 1, .nil => .nil
  | n + 1, .cons _ ss => ss.dropN n
theorem O.andThen_assoc (o : O) (f g : Env → O) : (o.andThen f).andThen g = o.andThen fun ρ => (f ρ).andThen g := by cases o <;> rfl
theorem ss_split (Φ : PhiT) : ∀ (n : Nat) (ss : Ss) (ρ : Env), evSs Φ ss ρ = (evSs Φ (ss.takeN n) ρ).andThen fun ρ => evSs Φ (ss.dropN n) ρ
  | 0, ss, ρ => by rw [Ss.takeN, Ss.dropN, ss_n, O.then_nx]
  | n + 1, .nil, ρ => by rw [Ss.takeN, Ss.dropN, ss_n, O.then_nx, ss_n]
  | n + 1, .cons s ss, ρ => by
    rw [Ss.takeN, Ss.dropN, ss_c, ss_c, O.andThen_assoc]
    congr 1
    funext ρ1
    exact ss_split Φ n ss ρ1
/-- families that are looked at one by one -/
theorem fam_mem {α β : Type} {f g : α → β} : ∀ {L : List α}, L.map f = L.map g → ∀ x ∈ L, f x = g x
  | [], _, x, hx => by cases hx
  | y :: L, h, x, hx => by
    rw [List.map_cons, List.map_cons] at h
    injection h with h1 h2
    rcases List.mem_cons.mp hx with rfl | hx
    · exact h1
    · exact fam_mem h2 x hx
def O.env : O → Env
  | .nx ρ => ρ
  | .rt _ ρ => ρ
  | .bk ρ => ρ
  | .ct ρ => ρ
  | .ex _ ρ => ρ
  | .bad => []
/-! ### _law_take -/
def tinL (a b c : Int) : Sl := .o (.lst [.int a, .int b, .int c])
def takeC : Fc := ⟨2, 6, [], (.cons (.ite (.cmp .gt (.val (.ix (.pk 0) (.val (.cst (.int 0))))) (.val (.cst (.int 0)))) (.cons (.asg (.nm 5) (.bin .mod (.val (.bi .int (.val (.ix (.pk 0) (.val (.cst (.int 0))))))) (.pk 1))) (.cons (.stx 0 (.cst (.int 0)) (.bin .fdiv (.val (.ix (.pk 0) (.val (.cst (.int 0))))) (.pk 1))) (.cons (.ret (.mv 5)) .nil))) .nil) (.cons (.stx 0 (.cst (.int 2)) (.bin .add (.val (.ix (.pk 0) (.val (.cst (.int 2))))) (.val (.cst (.int 1))))) (.cons (.asg (.nm 2) (.bin .mod (.val (.bi .int (.val (.bin .mul (.val (.bin .add (.val (.ix (.pk 0) (.val (.cst (.int 1))))) (.val (.bin .mul (.val (.cst (.int 48271))) (.val (.ix (.pk 0) (.val (.cst (.int 2))))))))) (.val (.bin .add (.val (.cst (.int 39373))) (.val (.ix (.pk 0) (.val (.cst (.int 2))))))))))) (.val (.cst (.int 2147483647))))) (.cons (.asg (.nm 3) (.bin .add (.val (.bin .mod (.val (.bi .int (.pk 2))) (.val (.cst (.int 40009))))) (.val (.cst (.int 7))))) (.cons (.asg (.nm 4) (.bin .mod (.val (.bi .int (.val (.bin .mul (.val (.bin .add (.val (.bin .add (.pk 2) (.val (.ix (.pk 0) (.val (.cst (.int 2))))))) (.val (.bin .fdiv (.val (.ix (.pk 0) (.val (.cst (.int 1))))) (.val (.cst (.int 1000003))))))) (.pk 3))))) (.val (.cst (.int 2147483629))))) (.cons (.ret (.bin .mod (.val (.bi .int (.val (.bin .fdiv (.val (.bin .mod (.val (.bi .int (.val (.bin .add (.val (.bin .mul (.pk 4) (.val (.cst (.int 48271))))) (.pk 2))))) (.val (.cst (.int 2147483587))))) (.val (.cst (.int 64))))))) (.pk 1))) .nil))))))⟩
theorem take_ok {T : Nat → Option Fn} {f : Nat} (h : T f = some (.py takeC)) (k : Nat) (a b c m : Int) (hm : 0 < m) (hm2 : m < 18446744073709551616) (hc : 0 ≤ c) (hc2 : c < 1000000000) :
    ∃ r a' b' c', Phi T (k + 1) f [tinL a b c, .v (.int m)] = .ok (.v (.int r)) [tinL a' b' c', .v (.int m)] ∧ 0 ≤ r ∧ r < m ∧ c ≤ c' ∧ c' ≤ c + 1 := by
  have m0 : ¬ m = 0 := by omega
  have ml : m.natAbs < 18446744073709551616 := by omega
  simp only [Phi, h, runF, tinL, takeC]
  by_cases ha : 0 < a
  · simp [fzP, evS, evE, evT, evP, evA, evEs, ixN, stxS, give, ha, m0, ml]
    exact ⟨_, _, _, _, ⟨rfl, rfl, rfl, rfl⟩, Int.fmod_nonneg_of_pos _ hm, Int.fmod_lt_of_pos _ hm, by omega, by omega⟩
  · have h1 : (39373 + (c + 1)).natAbs < 18446744073709551616 := by omega
    have h3 : ∀ x : Int, (x.fmod 40009 + 7).natAbs < 18446744073709551616 := fun x => by
      have := Int.fmod_nonneg_of_pos x (b := 40009) (by decide)
      have := Int.fmod_lt_of_pos x (b := 40009) (by decide)
      omega
    simp [fzP, evS, evE, evT, evP, evA, evEs, ixN, stxS, give, ha, m0, ml, h1, h3]
    exact ⟨_, _, _, _, ⟨rfl, rfl, rfl, rfl⟩, Int.fmod_nonneg_of_pos _ hm, Int.fmod_lt_of_pos _ hm, by omega, by omega⟩
/-! ### _law_cells -/
def cellsC : Fc := ⟨2, 6, [], (.cons (.asg (.nm 2) (.or2 (.bi .list (.val (.slc (.pk 0) none (some (.var 1))))) (.lst (.cons (.cst (.int 0)) .nil)))) (.cons (.fr (.tup [(.nm 3), (.nm 4)]) (.enum (.slc (.pk 0) (some (.var 1)) (some (.cst (.int 63))))) (.cons (.asg (.nm 5) (.bin .mod (.val (.bi .int (.pk 3))) (.pk 1))) (.cons (.stx 2 (.var 5) (.bin .add (.val (.ix (.pk 2) (.pk 5))) (.val (.bin .mul (.pk 4) (.val (.bin .add (.pk 3) (.val (.cst (.int 2))))))))) .nil))) (.cons (.ret (.mv 2)) .nil)))⟩

theorem forL_inv {tg : Tg} {b : Env → O} {I : Env → Prop} : ∀ {xs : List D} {ρ : Env}, (∀ x ∈ xs, ∀ ρ, I ρ → ∃ ρ1, asg tg (.v x) ρ = some ρ1 ∧ ∃ ρ2, b ρ1 = .nx ρ2 ∧ I ρ2) → I ρ → ∃ ρ', forL tg b xs ρ = .nx ρ' ∧ I ρ'
  | [], ρ, _, h => ⟨ρ, rfl, h⟩
  | x :: xs, ρ, hs, h => by
    obtain ⟨ρ1, e1, ρ2, e2, h2⟩ := hs x (List.mem_cons_self ..) ρ h
    obtain ⟨ρ', e3, h3⟩ := forL_inv (xs := xs) (fun y hy => hs y (List.mem_cons_of_mem _ hy)) h2
    refine ⟨ρ', ?_, h3⟩
    rw [forL, e1]
    dsimp only
    rw [e2]
    exact e3
theorem enumL_mem : ∀ {ds : List D} {j : Nat} {x : D}, x ∈ enumL j ds → ∃ i d, i < j + ds.length ∧ d ∈ ds ∧ x = .tup [.int (i : Nat), d]
  | [], j, x, h => by cases h
  | d :: ds, j, x, h => by
    rw [enumL] at h
    rcases List.mem_cons.mp h with rfl | h
    · exact ⟨j, d, by simp, List.mem_cons_self .., rfl⟩
    · obtain ⟨i, d', h1, h2, h3⟩ := enumL_mem h
      exact ⟨i, d', by rw [List.length_cons]; omega, List.mem_cons_of_mem _ h2, h3⟩
theorem cut_map {α β : Type} (f : α → β) (xs : List α) (lo hi : Option Int) : cut (xs.map f) lo hi = (cut xs lo hi).map f := by
  unfold cut
  rw [List.length_map, ← List.map_drop, ← List.map_take]
theorem ixN_in {n : Nat} {i : Int} (h0 : 0 ≤ i) (h1 : i < n) : ixN n i = some i.toNat := by
  unfold ixN
  rw [if_pos h0, if_pos h1]
theorem atI_in {α : Type} {xs : List α} {i : Int} (h0 : 0 ≤ i) (h1 : i < xs.length) : atI xs i = xs[i.toNat]? := by
  unfold atI
  rw [ixN_in h0 h1]
  rfl
theorem sIx_nat (n d m : Nat) : sIx n d (some (m : Int)) = min m n := by
  show (if (m : Int) < 0 then ((m : Int) + (n : Int)).toNat else min (m : Int).toNat n) = min m n
  rw [if_neg (by omega)]
  rfl
theorem cut_head {α : Type} (xs : List α) (m : Nat) : cut xs none (some (m : Int)) = xs.take (min m xs.length) := by
  unfold cut
  rw [sIx_nat]
  rfl
theorem cut_mid {α : Type} (xs : List α) (m k : Nat) : cut xs (some (m : Int)) (some (k : Int)) = (xs.drop (min m xs.length)).take (min k xs.length - min m xs.length) := by
  unfold cut
  rw [sIx_nat, sIx_nat]
theorem cells_ok {T : Nat → Option Fn} {f : Nat} (h : T f = some (.py cellsC)) (k : Nat) (ns : List Int) (m : Nat) (hm : 0 < m) (hm2 : m ≤ 63) (hl : ns.length ≤ 63) :
    ∃ xs : List Int, Phi T (k + 1) f [.v (.scr (ns.map .int)), .v (.int m)] = .ok (.o (.lst (xs.map .int))) [.v (.scr (ns.map .int)), .v (.int m)] ∧ 0 < xs.length ∧ xs.length ≤ m := by
  simp only [Phi, h, runF, cellsC]
  have m0 : ¬ (m : Int) = 0 := by omega
  have m1 : ¬ m = 0 := by omega
  -- the first cells
  have start : ∃ xs : List Int, 0 < xs.length ∧ xs.length ≤ m ∧ (m < ns.length → xs.length = m) ∧ ∀ ss, evSs (Phi T k) (.cons (.asg (.nm 2) (.or2 (.bi .list (.val (.slc (.pk 0) none (some (.var 1))))) (.lst (.cons (.cst (.int 0)) .nil)))) ss) [some (.v (.scr (ns.map .int))), some (.v (.int m)), none, none, none, none] =
      evSs (Phi T k) ss [some (.v (.scr (ns.map .int))), some (.v (.int m)), some (.o (.lst (xs.map .int))), none, none, none] := by
    by_cases hn : ns = []
    · subst hn
      refine ⟨[0], by simp, hm, by simp, fun ss => ?_⟩
      simp [evS, evE, evP, evOI, slD, cut, sIx, evEs, SZ]
    · have hpos : 0 < ns.length := by
        rcases ns with _ | ⟨x, ns⟩
        · exact absurd rfl hn
        · simp
      have hlen : (cut ns none (some (m : Int))).length = min m ns.length := by
        rw [cut_head, List.length_take]
        omega
      refine ⟨cut ns none (some m), by omega, by omega, by omega, fun ss => ?_⟩
      have hne : (cut ns none (some (m : Int))).isEmpty = false := by
        cases q : cut ns none (some (m : Int)) with
        | nil => rw [q] at hlen; simp at hlen; omega
        | cons _ _ => rfl
      simp [evS, evE, evP, evOI, slD, cut_map, hne]
  obtain ⟨xs0, p1, p2, p3, e0⟩ := start
  simp only [List.length_cons, List.length_nil, if_true, fzP, List.contains_nil, Bool.false_eq_true, if_false, List.map_cons, List.map_nil, Nat.reduceAdd, Nat.reduceSub, List.replicate, List.cons_append, List.nil_append]
  rw [e0]
  -- the loop
  have loop := forL_inv (tg := .tup [.nm 3, .nm 4]) (b := evSs (Phi T k) (.cons (.asg (.nm 5) (.bin .mod (.val (.bi .int (.pk 3))) (.pk 1))) (.cons (.stx 2 (.var 5) (.bin .add (.val (.ix (.pk 2) (.pk 5))) (.val (.bin .mul (.pk 4) (.val (.bin .add (.pk 3) (.val (.cst (.int 2))))))))) .nil)))
    (I := fun ρ => ∃ xs : List Int, ∃ x3 x4 x5, xs.length = xs0.length ∧ ρ = [some (.v (.scr (ns.map .int))), some (.v (.int m)), some (.o (.lst (xs.map .int))), x3, x4, x5])
    (xs := enumL 0 (cut (ns.map .int) (some m) (some 63))) (ρ := [some (.v (.scr (ns.map .int))), some (.v (.int m)), some (.o (.lst (xs0.map .int))), none, none, none]) ?_ ⟨xs0, none, none, none, rfl, rfl⟩
  · obtain ⟨ρ', e1, xs, x3, x4, x5, l1, rfl⟩ := loop
    refine ⟨xs, ?_, by omega, by omega⟩
    simp only [ss_c, evS, evIt, evE, evP, evOI, gt_zero, gt_succ, Option.isSome_some, if_true, R.bind_ok, R.stm_ok, ofO_some, rs_l, rs_r, Option.map_some, Option.bind_some, Sl.d, slD, fz_succ, fz_zero_v, intO_int, enumD]
    rw [e1]
    simp [evS, evE, give]
  · intro x hx ρ hρ
    obtain ⟨xs, x3, x4, x5, l1, rfl⟩ := hρ
    obtain ⟨i, d, h1, h2, rfl⟩ := enumL_mem hx
    rw [cut_map] at h1 h2
    obtain ⟨v, hv, rfl⟩ := List.mem_map.mp h2
    have hlen : m < ns.length := by
      rcases Nat.lt_or_ge m ns.length with h | h
      · exact h
      · rw [show (63 : Int) = ((63 : Nat) : Int) from rfl, cut_mid] at h1
        simp only [List.length_map, List.length_take, List.length_drop] at h1
        omega
    have hi : i < 63 := by
      rw [show (63 : Int) = ((63 : Nat) : Int) from rfl, cut_mid] at h1
      simp only [List.length_map, List.length_take, List.length_drop] at h1
      omega
    have lm : xs.length = m := l1.trans (p3 hlen)
    refine ⟨_, rfl, ?_⟩
    have q0 := Int.fmod_nonneg_of_pos (i : Int) (b := (m : Int)) (by omega)
    have q1 := Int.fmod_lt_of_pos (i : Int) (b := (m : Int)) (by omega)
    have hj : ((i : Int).fmod m).toNat < xs.length := by omega
    have r1 : atI (xs.map D.int) ((i : Int).fmod m) = some (.int xs[((i : Int).fmod m).toNat]) := by
      rw [atI_in q0 (by rw [List.length_map]; omega), List.getElem?_map, List.getElem?_eq_getElem hj]
      rfl
    have r2 : ixN xs.length ((i : Int).fmod m) = some ((i : Int).fmod m).toNat := ixN_in q0 (by omega)
    have r3 : ((i : Int) + 2).natAbs < 18446744073709551616 := by omega
    refine ⟨_, by simp [evS, evE, evP, m0, m1, r1, r2, r3, stxS]; rfl, xs.set ((i : Int).fmod m).toNat (xs[((i : Int).fmod m).toNat] + v * (i + 2)), _, _, _, by rw [List.length_set]; exact l1, by rw [List.map_set]⟩
/-! ### _law_box -/
def boxC (z : Int) : Fc := ⟨2, 3, [], (.cons (.asg (.nm 2) (.ite (.cmp .lt (.pk 1) (.val (.bi .len (.pk 0)))) (.ix (.pk 0) (.pk 1)) (.cst (.int 0)))) (.cons (.ret (.lst (.cons (.bin .mul (.val (.bi .abs (.pk 2))) (.val (.bi .int (.val (.tst (.cmp .ge (.val (.bi .abs (.pk 2))) (.val (.bin .pow (.val (.cst (.int 10))) (.val (.cst (.int 18))))))))))) (.cons (.bin .add (.val (.bin .add (.val (.bin .mod (.val (.bi .int (.pk 2))) (.val (.cst (.int 2305843009213693951))))) (.val (.bin .mul (.val (.cst (.int 39373))) (.pk 1))))) (.val (.cst (.int z)))) (.cons (.cst (.int 0)) .nil))))) .nil))⟩
theorem bin_pow_ok {i j : Int} (h0 : 0 ≤ j) (h1 : j ≤ 1000000) (h2 : i.natAbs < 18446744073709551616) : binD .pow (.int i) (.int j) = some (.v (.int (i ^ j.toNat))) := if_pos ⟨h0, h1, h2⟩
theorem box_ok {T : Nat → Option Fn} {f : Nat} {z : Int} (h : T f = some (.py (boxC z))) (k : Nat) (xs : List Int) (j : Nat) (hj : j < 1000000) (s : Sl) (hs : s = .v (.lst (xs.map .int)) ∨ s = .o (.lst (xs.map .int))) :
    ∃ a b, Phi T (k + 1) f [s, .v (.int j)] = .ok (tinL a b 0) [s, .v (.int j)] := by
  simp only [Phi, h, runF, tinL, boxC]
  have hp := bin_pow_ok (i := 10) (j := 18) (by decide) (by decide) (by decide)
  have hb : ∀ b : Bool, (if b = true then (1 : Int) else 0).natAbs < 18446744073709551616 := fun b => by cases b <;> decide
  have hb2 : ∀ p : Prop, [Decidable p] → (if p then (1 : Int) else 0).natAbs < 18446744073709551616 := fun p _ => by split <;> decide
  by_cases hl : j < xs.length
  · have r1 : atI (xs.map D.int) (j : Int) = some (.int xs[j]) := by
      rw [at_nat, List.getElem?_map, List.getElem?_eq_getElem hl]
      rfl
    rcases hs with rfl | rfl <;> simp [fzP, evS, evE, evT, evP, evEs, give, hl, r1, hp, hb, hb2, SZ] <;> exact ⟨_, rfl, _, rfl⟩
  · rcases hs with rfl | rfl <;> simp [fzP, evS, evE, evT, evP, evEs, give, hl, hp, hb, hb2, SZ] <;> exact ⟨_, rfl, _, rfl⟩
end Rf

/-! Pu1: common divisors. -/
namespace Rf
def gcdC : Fc := ⟨2, 3, [0, 1], (.cons (.par [0, 1] (.cons (.bi .abs (.pk 0)) (.cons (.bi .abs (.pk 1)) .nil))) (.cons (.fr (.nm 2) (.rng1 (.cst (.int 9000))) (.cons (.ite (.cmp .eq (.pk 1) (.val (.cst (.int 0)))) (.cons .brk .nil) .nil) (.cons (.par [0, 1] (.cons (.var 1) (.cons (.bin .mod (.pk 0) (.pk 1)) .nil))) .nil))) (.cons (.ret (.var 0)) .nil)))⟩
def comC : Fc := ⟨2, 2, [0, 1], (.cons (.whl (.cmp .ne (.pk 1) (.val (.cst (.int 0)))) (.cons (.par [0, 1] (.cons (.var 1) (.cons (.bin .mod (.pk 0) (.pk 1)) .nil))) .nil)) (.cons (.ret (.bi .abs (.pk 0))) .nil))⟩
theorem fmod_nat (a b : Nat) : (a : Int).fmod (b : Int) = ((a % b : Nat) : Int) := by
  rw [Int.fmod_eq_emod_of_nonneg _ (by omega)]
  rfl
theorem forL_cons (tg : Tg) (b : Env → O) (x : D) (xs : List D) (ρ : Env) : forL tg b (x :: xs) ρ = (match asg tg (.v x) ρ with
    | none => .bad
    | some ρ => match b ρ with
      | .nx ρ => forL tg b xs ρ
      | .ct ρ => forL tg b xs ρ
      | .bk ρ => .nx ρ
      | o => o) := rfl
def gcdB : Ss := .cons (.ite (.cmp .eq (.pk 1) (.val (.cst (.int 0)))) (.cons .brk .nil) .nil) (.cons (.par [0, 1] (.cons (.var 1) (.cons (.bin .mod (.pk 0) (.pk 1)) .nil))) .nil)
theorem gcdB_0 (Φ : PhiT) (x : Int) (l : Option Sl) : evSs Φ gcdB [some (.v (.int x)), some (.v (.int 0)), l] = .bk [some (.v (.int x)), some (.v (.int 0)), l] := by
  simp [gcdB, evS, evT, evP, evE]
theorem gcdB_1 (Φ : PhiT) (x y : Nat) (hy : 0 < y) (l : Option Sl) : evSs Φ gcdB [some (.v (.int x)), some (.v (.int y)), l] = .nx [some (.v (.int y)), some (.v (.int ((x % y : Nat) : Int))), l] := by
  have h0 : ¬ (y : Int) = 0 := by omega
  have h1 : ¬ y = 0 := by omega
  simp [gcdB, evS, evT, evP, evE, evSl, parS, h0, h1, fmod_nat]
theorem gcd_loop (Φ : PhiT) : ∀ (m n : Nat) (lo : Int) (x y : Nat) (l : Option Sl), y < 2 ^ m → 2 * m ≤ n → ∃ l', forL (.nm 2) (evSs Φ gcdB) (rngL lo n) [some (.v (.int x)), some (.v (.int y)), l] = .nx [some (.v (.int (Nat.gcd x y))), some (.v (.int 0)), l']
  | 0, n, lo, x, y, l, hy, hn => by
    have : y = 0 := by simp at hy; exact hy
    subst this
    cases n with
    | zero => exact ⟨l, by simp [rngL, forL]⟩
    | succ n =>
      refine ⟨some (.v (.int lo)), ?_⟩
      rw [rngL, forL_cons]
      simp [asg]
      rw [gcdB_0]
  | m + 1, n, lo, x, y, l, hy, hn => by
    obtain ⟨n, rfl⟩ : ∃ n', n = n' + 2 := ⟨n - 2, by omega⟩
    rw [rngL, forL_cons]
    simp only [asg, List.set_cons_succ, List.set_cons_zero]
    by_cases h0 : y = 0
    · subst h0
      have := gcdB_0 Φ x (some (.v (.int lo)))
      refine ⟨some (.v (.int lo)), ?_⟩
      simp only [Int.natCast_zero] at this ⊢
      rw [this]
      simp
    · rw [gcdB_1 Φ x y (by omega)]
      dsimp only
      rw [rngL, forL_cons]
      simp only [asg, List.set_cons_succ, List.set_cons_zero]
      by_cases h1 : x % y = 0
      · rw [h1]
        rw [show ((0 : Nat) : Int) = 0 from rfl, gcdB_0]
        refine ⟨some (.v (.int (lo + 1))), ?_⟩
        dsimp only
        rw [Nat.gcd_comm x y, Nat.gcd_rec, h1]
        simp
      · rw [gcdB_1 Φ y (x % y) (by omega)]
        dsimp only
        have h2 : y % (x % y) < 2 ^ m := by
          have h3 := Nat.mod_lt x (show 0 < y by omega)
          have h4 := Nat.mod_lt y (show 0 < x % y by omega)
          have h5 := Nat.div_add_mod y (x % y)
          have h6 : 1 ≤ y / (x % y) := (Nat.one_le_div_iff (by omega)).mpr (by omega)
          have h7 : x % y ≤ (x % y) * (y / (x % y)) := Nat.le_mul_of_pos_right _ h6
          rw [Nat.pow_succ] at hy
          omega
        obtain ⟨l', e⟩ := gcd_loop Φ m n (lo + 1 + 1) (x % y) (y % (x % y)) (some (.v (.int (lo + 1)))) h2 (by omega)
        refine ⟨l', ?_⟩
        rw [e]
        rw [Nat.gcd_comm (x % y), ← Nat.gcd_rec, ← Nat.gcd_rec, Nat.gcd_comm y x]
theorem gcd_ok {T : Nat → Option Fn} {f : Nat} (h : T f = some (.py gcdC)) (k : Nat) (x y : Int) (hy : y.natAbs < 2 ^ 4000) :
    Phi T (k + 1) f [.v (.int x), .v (.int y)] = .ok (.v (.int (Nat.gcd x.natAbs y.natAbs))) [.v (.int x), .v (.int y)] := by
  have ab : ∀ z : Int, (if z < 0 then -z else z) = ((z.natAbs : Nat) : Int) := fun z => by split <;> omega
  obtain ⟨l', e⟩ := gcd_loop (Phi T k) 4000 9000 0 x.natAbs y.natAbs none hy (by decide)
  unfold gcdB at e
  simp only [Phi, h, runF, gcdC]
  simp [fzP, evS, evE, evP, evSl, evIt, parS, rngOf, rng62, ab]
  rw [e]
  simp [give]
theorem allC {α : Type} {p : α → Prop} {a : α} {l : List α} (h : p a) (hs : ∀ x ∈ l, p x) : ∀ x ∈ a :: l, p x := fun x hx => by
  rcases List.mem_cons.mp hx with rfl | hx
  · exact h
  · exact hs x hx
theorem allE {α : Type} {p : α → Prop} : ∀ x ∈ ([] : List α), p x := fun x hx => by cases hx
def someC (f g : Nat) : Fc := ⟨2, 5, [], (.cons (.par [2, 3] (.cons (.call f (.ref 0 (.ref 1 .nil)) []) (.cons (.call f (.ref 0 (.ref 1 .nil)) []) .nil))) (.cons (.asg (.nm 4) (.call g (.ref 2 (.ref 3 .nil)) [])) (.cons (.ret (.ite (.cmp .gt (.pk 4) (.val (.cst (.int 0)))) (.tup (.cons (.bin .fdiv (.pk 2) (.pk 4)) (.cons (.bin .fdiv (.pk 3) (.pk 4)) .nil))) (.tup (.cons (.cst (.int 0)) (.cons (.cst (.int 1)) .nil))))) .nil)))⟩

theorem fdiv_nat (a b : Nat) : (a : Int).fdiv (b : Int) = ((a / b : Nat) : Int) := by
  rw [Int.fdiv_eq_ediv_of_nonneg _ (by omega)]
  rfl
/-- a drawn SLOPE -/
theorem some_ok {T : Nat → Option Fn} {f1 f2 f3 : Nat} (h : T f3 = some (.py (someC f1 f2))) (h1 : T f1 = some (.py takeC)) (h2 : T f2 = some (.py gcdC)) (k : Nat) (a b c : Int) (m : Nat) (hm : 1 < m) (hm2 : m < 1000000) (hc : 0 ≤ c) (hc2 : c < 1000000000 - 2) :
    ∃ p q : Nat, ∃ a' b' c', Phi T (k + 2) f3 [tinL a b c, .v (.int m)] = .ok (.v (.tup [.int p, .int q])) [tinL a' b' c', .v (.int m)] ∧ c ≤ c' ∧ c' ≤ c + 2 ∧ p < m ∧ q < m ∧ Nat.gcd p q = 1 := by
  obtain ⟨r1, a1, b1, c1, e1, p1, p2, p3, p4⟩ := take_ok h1 k a b c m (by omega) (by omega) hc (by omega)
  obtain ⟨r2, a2, b2, c2, e2, q1, q2, q3, q4⟩ := take_ok h1 k a1 b1 c1 m (by omega) (by omega) (by omega) (by omega)
  obtain ⟨x, rfl⟩ := Int.eq_ofNat_of_zero_le p1
  obtain ⟨y, rfl⟩ := Int.eq_ofNat_of_zero_le q1
  have hy : ((y : Int)).natAbs < 2 ^ 4000 := by
    have : (1000000 : Nat) < 2 ^ 4000 := Nat.lt_of_lt_of_le (show 1000000 < 2 ^ 20 by decide) (Nat.pow_le_pow_right (by decide) (by decide))
    simp only [Int.natAbs_natCast]
    omega
  have e3 := gcd_ok h2 k (x : Int) (y : Int) hy
  simp only [Int.natAbs_natCast] at e3
  by_cases hg : Nat.gcd x y = 0
  · refine ⟨0, 1, a2, b2, c2, ?_, by omega, by omega, by omega, by omega, rfl⟩
    rw [hg] at e3
    simp only [tinL] at e1 e2 e3
    rw [Phi]
    simp only [h, runF, someC, tinL]
    simp [fzP, evS, evE, evA, evSl, evP, evT, evEs, parS, callF, lend, back, e1, e2, e3, give, SZ]
  · have g2 : Nat.gcd x y < 18446744073709551616 := by
      have : Nat.gcd x y ≤ x + y := by
        rcases Nat.eq_zero_or_pos x with hx | hx
        · subst hx
          simp
        · exact Nat.le_trans (Nat.gcd_le_left y hx) (by omega)
      omega
    refine ⟨x / Nat.gcd x y, y / Nat.gcd x y, a2, b2, c2, ?_, by omega, by omega, ?_, ?_, ?_⟩
    · simp only [tinL] at e1 e2 e3
      rw [Phi]
      simp only [h, runF, someC, tinL]
      generalize Nat.gcd x y = g at *
      have g1 : 0 < g := by omega
      simp [fzP, evS, evE, evA, evSl, evP, evT, evEs, parS, callF, lend, back, e1, e2, e3, give, SZ, hg, g1, g2, fdiv_nat]
    · exact Nat.lt_of_le_of_lt (Nat.div_le_self _ _) (by omega)
    · exact Nat.lt_of_le_of_lt (Nat.div_le_self _ _) (by omega)
    · exact Nat.coprime_div_gcd_div_gcd (by omega)
theorem lcL_turn {Φ : PhiT} {tg : Tg} {own : List Nat} {f : Env → R Sl} {x : D} {xs : List D} {ρ ρ1 ρ2 : Env} {s : Sl} (h1 : asg tg (.v x) ρ = some ρ1) (h2 : f ρ1 = .ok s ρ2) :
    lcL tg (evOT Φ none) f own (x :: xs) ρ = (lcL tg (evOT Φ none) f own xs (wipeE ρ2 own)).bind fun ds ρ => .ok (s.d :: ds) ρ := by
  rw [lcL, h1]
  simp only [evOT, R.bind_ok, if_true, h2]
theorem rngL_len : ∀ (lo : Int) (n : Nat), (rngL lo n).length = n
  | _, 0 => rfl
  | lo, n + 1 => congrArg (· + 1) (rngL_len (lo + 1) n)
theorem bools_true {α : Type} : ∀ l : List α, boolsD (l.map fun _ => D.bl true) = some (l.map fun _ => true)
  | [] => rfl
  | x :: l => by
    rw [List.map_cons, boolsD, bools_true l]
    rfl
theorem R.bind_of {α β : Type} {r : R α} {a : α} {ρ : Env} {f : α → Env → R β} (h : r = .ok a ρ) : r.bind f = f a ρ := by rw [h]; rfl
theorem ev_cst {Φ : PhiT} (d : D) (ρ : Env) : evE Φ (.cst d) ρ = .ok (.v d) ρ := by rw [evE]
theorem evP_val {Φ : PhiT} {e : E} {ρ ρ' : Env} {s : Sl} (h : evE Φ e ρ = .ok s ρ') : evP Φ (.val e) ρ = .ok (.inr s.d) ρ' := by rw [evP, h]; rfl
theorem ev_bi {Φ : PhiT} {p : P} {b : Bi} {ρ ρ' : Env} {d : D} {s : Sl} (h : evP Φ p ρ = .ok (.inr d) ρ') (h2 : biD b d = some s) : evE Φ (.bi b p) ρ = .ok s ρ' := by
  rw [evE, h]
  show ofO ((rs ρ' (.inr d)).bind fun x => biD b x) ρ' = _
  rw [rs_r, Option.bind_some, h2]
  rfl
theorem ev_lc {Φ : PhiT} {own : List Nat} {tg : Tg} {it : Ir} {c : Option T} {e : E} {ρ ρ' ρ2 : Env} {xs : List D} {s : Sl} (h : evIt Φ it ρ = .ok xs ρ') (h2 : lcR own tg (evOT Φ c) (evE Φ e) xs ρ' = .ok s ρ2) : evE Φ (.lc own tg it c e) ρ = .ok s ρ2 := by
  rw [evE, h]
  exact h2
theorem evI_rng1 {Φ : PhiT} {e : E} {ρ ρ' : Env} {s : Sl} {xs : List D} (h : evE Φ e ρ = .ok s ρ') (h2 : rngOf (.int 0) s.d = some xs) : evIt Φ (.rng1 e) ρ = .ok xs ρ' := by
  rw [evIt, h]
  show ofO (rngOf (.int 0) s.d) ρ' = _
  rw [h2]
  rfl
theorem rng62_nat {n : Nat} (hn : n ≤ 1000000) : rng62 (n : Int) = true := by
  exact rng62_iff.mpr (by omega)
theorem rngOf_nat {n : Nat} (hn : n ≤ 1000000) : rngOf (.int 0) (.int n) = some (rngL 0 n) := by
  have h1 := rng62_nat hn
  have h0 : rng62 (0 : Int) = true := rng62_nat (n := 0) (Nat.zero_le _)
  have : rngOf (.int 0) (.int n) = if rng62 0 && rng62 (n : Int) then some (rngL 0 ((n : Int) - 0).toNat) else none := rfl
  rw [this, h0, h1, Int.sub_zero, Int.toNat_natCast]
  rfl
theorem lcR_ok {own : List Nat} {tg : Tg} {c : Env → R Bool} {f : Env → R Sl} {xs ds : List D} {ρ ρ' : Env} (hl : xs.length ≤ SZ) (h : lcL tg c f own xs (wipeE (Rf.fzs ρ own) own) = .ok ds ρ') : lcR own tg c f xs ρ = .ok (.o (.lst ds)) (restE (Rf.fzs ρ own) ρ' own) := by
  unfold lcR
  rw [if_pos hl]
  dsimp only
  rw [h]
  rfl
/-- all([e for .. in range(n)]), every one True -/
theorem all_lc {Φ : PhiT} {own : List Nat} {tg : Tg} {e : E} {ρ ρ' : Env} (n : Nat) (hn : n ≤ 1000000) (h : lcL tg (evOT Φ none) (evE Φ e) own (rngL 0 n) (wipeE (Rf.fzs ρ own) own) = .ok ((rngL 0 n).map fun _ => .bl true) ρ') :
    evE Φ (.bi .all (.val (.lc own tg (.rng1 (.cst (.int n))) none e))) ρ = .ok (.v (.bl true)) (restE (Rf.fzs ρ own) ρ' own) := by
  have hr := rngOf_nat hn
  have hz : (rngL 0 n).length ≤ SZ := by
    rw [rngL_len]
    exact Nat.le_trans hn (by decide)
  have hl := lcR_ok hz h
  have hb : biD .all (.lst ((rngL 0 n).map fun _ => .bl true)) = some (.v (.bl true)) := by
    have : biD .all (.lst ((rngL 0 n).map fun _ => .bl true)) = (boolsD ((rngL 0 n).map fun _ => .bl true)).map fun bs => .v (.bl (bs.all id)) := rfl
    rw [this, bools_true]
    simp
  exact ev_bi (evP_val (ev_lc (evI_rng1 (ev_cst _ _) hr) hl)) hb
end Rf

/-! Pu2: the plain helpers of the program: is_number, are_numbers, tupled .. -/
namespace Rf
/-- a comprehension, item by item -/
theorem lcL_fm {tg : Tg} {c : Env → R Bool} {f : Env → R Sl} {own : List Nat} {ρ : Env} {p : D → Bool} {g : D → D} : ∀ {xs : List D}, (∀ x ∈ xs, ∃ ρ1, asg tg (.v x) ρ = some ρ1 ∧ ∃ ρ2, c ρ1 = .ok (p x) ρ2 ∧ (p x = true → ∃ s ρ3, f ρ2 = .ok s ρ3 ∧ s.d = g x ∧ wipeE ρ3 own = ρ) ∧ (p x = false → wipeE ρ2 own = ρ)) →
    lcL tg c f own xs ρ = .ok ((xs.filter p).map g) ρ
  | [], _ => rfl
  | x :: xs, h => by
    obtain ⟨ρ1, e1, ρ2, e2, h1, h2⟩ := h x (List.mem_cons_self ..)
    have ih := lcL_fm (xs := xs) fun y hy => h y (List.mem_cons_of_mem _ hy)
    rw [lcL, e1]
    dsimp only
    rw [R.bind_of e2]
    cases hp : p x with
    | true =>
      obtain ⟨s, ρ3, e3, e4, e5⟩ := h1 hp
      rw [if_pos rfl, R.bind_of e3, e5, R.bind_of ih, List.filter_cons_of_pos hp, List.map_cons, e4]
    | false =>
      rw [if_neg Bool.false_ne_true, h2 hp, List.filter_cons_of_neg (by rw [hp]; exact Bool.false_ne_true)]
      exact ih
theorem lcL_map {Φ : PhiT} {tg : Tg} {f : Env → R Sl} {own : List Nat} {ρ : Env} {g : D → D} {xs : List D} (h : ∀ x ∈ xs, ∃ ρ1, asg tg (.v x) ρ = some ρ1 ∧ ∃ s ρ3, f ρ1 = .ok s ρ3 ∧ s.d = g x ∧ wipeE ρ3 own = ρ) : lcL tg (evOT Φ none) f own xs ρ = .ok (xs.map g) ρ := by
  have := lcL_fm (tg := tg) (c := evOT Φ none) (f := f) (own := own) (ρ := ρ) (p := fun _ => true) (g := g) (xs := xs) fun x hx => by
    obtain ⟨ρ1, e1, h1⟩ := h x hx
    exact ⟨ρ1, e1, ρ1, by rw [evOT], fun _ => h1, fun z => by cases z⟩
  rw [this, List.filter_eq_self.mpr fun _ _ => rfl]
theorem evI_sq {Φ : PhiT} {e : E} {ρ ρ' : Env} {s : Sl} {xs : List D} (h : evE Φ e ρ = .ok s ρ') (h2 : itm s.d = some xs) : evIt Φ (.sq e) ρ = .ok xs ρ' := by
  rw [evIt, h]
  show ofO (itm s.d) ρ' = _
  rw [h2]
  rfl
def isNum : D → Bool
  | .int _ => true
  | _ => false
def numC : Fc := ⟨1, 1, [], (.cons (.ret (.and2 (.isk .int (.pk 0)) (.tst (.not (.tr (.val (.isk .bool (.pk 0)))))))) .nil)⟩
def longC : Fc := ⟨2, 2, [], (.cons (.ret (.and2 (.isk .tup (.pk 0)) (.tst (.cmp .eq (.val (.bi .len (.pk 0))) (.pk 1))))) .nil)⟩
def numsC (f : Nat) : Fc := ⟨1, 2, [], (.cons (.ret (.and2 (.isk .tup (.pk 0)) (.bi .all (.val (.lc [1] (.nm 1) (.sq (.var 0)) none (.call f (.ref 1 .nil) [])))))) .nil)⟩
def tupledC (f : Nat) : Fc := ⟨1, 2, [], (.cons (.ret (.ite (.tr (.val (.isk .seq (.pk 0)))) (.bi .tuple (.val (.lc [1] (.nm 1) (.sq (.var 0)) none (.call f (.ref 1 .nil) [])))) (.var 0))) .nil)⟩
/-- data that has kinds -/
def kin : D → Bool
  | .fn _ => false
  | .scr _ => false
  | .dic _ => false
  | _ => true
theorem num_ok {T : Nat → Option Fn} {f : Nat} (h : T f = some (.py numC)) (k : Nat) (d : D) (hd : kin d = true) : Phi T (k + 1) f [.v d] = .ok (.v (.bl (isNum d))) [.v d] := by
  rw [Phi]
  simp only [h, runF, numC]
  cases d <;> first | (cases hd; done) | simp [fzP, evS, evE, evT, evP, isK, give, isNum]
theorem kin_of_pln {d : D} (h : pln d = true) : kin d = true := by
  cases d <;> first | rfl | cases h
theorem boolsD_map {α : Type} (p : α → Bool) : ∀ l : List α, boolsD (l.map fun x => D.bl (p x)) = some (l.map p)
  | [] => rfl
  | x :: l => by
    rw [List.map_cons, boolsD, boolsD_map p l]
    rfl
/-- all([f(x) for x in xs]), f a def of one value, the comprehension's name in slot 1, xs in slot 0 -/
theorem nums_ok {T : Nat → Option Fn} {f g : Nat} (h : T f = some (.py (numsC g))) (hg : T g = some (.py numC)) (k : Nat) (d : D) (hd : pln d = true) (hz : ∀ ds, d = .tup ds → ds.length ≤ SZ) :
    Phi T (k + 2) f [.v d] = .ok (.v (.bl (match d with | .tup ds => ds.all isNum | _ => false))) [.v d] := by
  rw [Phi]
  simp only [h, runF, numsC]
  cases d with
  | tup ds =>
    have hl : lcL (.nm 1) (evOT (Phi T (k + 1)) none) (evE (Phi T (k + 1)) (.call g (.ref 1 .nil) [])) [1] ds [some (.v (.tup ds)), none] = .ok (ds.map fun x => .bl (isNum x)) [some (.v (.tup ds)), none] := by
      refine lcL_map fun x hx => ⟨_, rfl, .v (.bl (isNum x)), [some (.v (.tup ds)), some (.v x)], ?_, rfl, rfl⟩
      have hx2 : pln x = true := by
        have hd : plns ds = true := hd
        induction ds with
        | nil => cases hx
        | cons y ds ih =>
          rw [plns, Bool.and_eq_true] at hd
          rcases List.mem_cons.mp hx with rfl | hx
          · exact hd.1
          · exact ih hd.2 (fun ds' e => by cases e; have := hz _ rfl; rw [List.length_cons] at this; omega) hx hd.2
      have e1 := num_ok hg k x (kin_of_pln hx2)
      simp [evE, evA, callF, lend, back, e1]
    have hR := lcR_ok (own := [1]) (tg := .nm 1) (c := evOT (Phi T (k + 1)) none) (f := evE (Phi T (k + 1)) (.call g (.ref 1 .nil) [])) (ρ := [some (.v (.tup ds)), none]) (hz ds rfl) hl
    have hb : biD .all (.lst (ds.map fun x => .bl (isNum x))) = some (.v (.bl (ds.all isNum))) := by
      show (boolsD _).map _ = _
      rw [boolsD_map]
      simp
    have e2 := ev_bi (evP_val (ev_lc (evI_sq (e := .var 0) (Φ := Phi T (k + 1)) (ρ := [some (.v (.tup ds)), none]) (s := .v (.tup ds)) (ρ' := [some (.v (.tup ds)), none]) (by simp [evE]) rfl) hR)) hb
    have e3 : evE (Phi T (k + 1)) (.and2 (.isk .tup (.pk 0)) (.bi .all (.val (.lc [1] (.nm 1) (.sq (.var 0)) none (.call g (.ref 1 .nil) []))))) [some (.v (.tup ds)), none] = .ok (.v (.bl (ds.all isNum))) (restE (Rf.fzs [some (.v (.tup ds)), none] [1]) [some (.v (.tup ds)), none] [1]) := by
      rw [evE, R.bind_of (a := .v (.bl true)) (ρ := [some (.v (.tup ds)), none]) (by simp [evE, evP, isK])]
      exact e2
    have e4 : evSs (Phi T (k + 1)) (.cons (.ret (.and2 (.isk .tup (.pk 0)) (.bi .all (.val (.lc [1] (.nm 1) (.sq (.var 0)) none (.call g (.ref 1 .nil) [])))))) .nil) [some (.v (.tup ds)), none] = .rt (.v (.bl (ds.all isNum))) (restE (Rf.fzs [some (.v (.tup ds)), none] [1]) [some (.v (.tup ds)), none] [1]) := by
      rw [ss_c, evS, e3]
      rfl
    simp only [List.length_cons, List.length_nil, if_true, fzP, List.contains_nil, Bool.false_eq_true, if_false, List.map_cons, List.map_nil, Nat.reduceAdd, Nat.reduceSub, List.replicate, List.cons_append, List.nil_append]
    rw [e4]
    rfl
  | _ => first | (cases hd; done) | simp [fzP, evS, evE, evT, evP, isK, give]
theorem long_ok {T : Nat → Option Fn} {f : Nat} (h : T f = some (.py longC)) (k : Nat) (d : D) (n : Int) (hd : kin d = true) : Phi T (k + 1) f [.v d, .v (.int n)] = .ok (.v (.bl (match d with | .tup ds => decide ((ds.length : Int) = n) | _ => false))) [.v d, .v (.int n)] := by
  rw [Phi]
  simp only [h, runF, longC]
  cases d <;> first | (cases hd; done) | simp [fzP, evS, evE, evT, evP, isK, give]
mutual
def tupD : D → D
  | .tup ds => .tup (tupDs ds)
  | .lst ds => .tup (tupDs ds)
  | d => d
def tupDs : List D → List D
  | [] => []
  | d :: ds => tupD d :: tupDs ds
end
theorem tupDs_map : ∀ ds : List D, tupDs ds = ds.map tupD
  | [] => by rw [tupDs]; rfl
  | d :: ds => by rw [tupDs, tupDs_map ds]; rfl
mutual
/-- data of kinds, whose rows are not too long -/
def sml : D → Bool
  | .fn _ => false
  | .scr _ => false
  | .dic _ => false
  | .tup ds => decide (ds.length ≤ SZ) && smls ds
  | .lst ds => decide (ds.length ≤ SZ) && smls ds
  | _ => true
def smls : List D → Bool
  | [] => true
  | d :: ds => sml d && smls ds
end
theorem sml_kin {d : D} (h : sml d = true) : kin d = true := by
  cases d <;> first | rfl | cases h
theorem smls_mem : ∀ {ds : List D}, smls ds = true → ∀ d ∈ ds, sml d = true
  | [], _, d, hd => by cases hd
  | e :: ds, h, d, hd => by
    rw [smls, Bool.and_eq_true] at h
    rcases List.mem_cons.mp hd with rfl | hd
    · exact h.1
    · exact smls_mem h.2 d hd
theorem dep_mem : ∀ {ds : List D} {d : D}, d ∈ ds → dep d ≤ deps ds
  | [], d, hd => by cases hd
  | e :: ds, d, hd => by
    rw [deps]
    rcases List.mem_cons.mp hd with rfl | hd
    · exact Nat.le_max_left _ _
    · exact Nat.le_trans (dep_mem hd) (Nat.le_max_right _ _)
theorem tup_step {T : Nat → Option Fn} {f : Nat} (h : T f = some (.py (tupledC f))) (k : Nat) (d : D) (ds : List D) (hd : d = .tup ds ∨ d = .lst ds) (hz : ds.length ≤ SZ) (hi : ∀ x ∈ ds, Phi T k f [.v x] = .ok (.v (tupD x)) [.v x]) : Phi T (k + 1) f [.v d] = .ok (.v (.tup (ds.map tupD))) [.v d] := by
  have hitm : itm d = some ds := by rcases hd with rfl | rfl <;> rfl
  have hseq : isK .seq d = some true := by rcases hd with rfl | rfl <;> rfl
  have hl : lcL (.nm 1) (evOT (Phi T k) none) (evE (Phi T k) (.call f (.ref 1 .nil) [])) [1] ds [some (.v d), none] = .ok (ds.map tupD) [some (.v d), none] := by
    refine lcL_map fun x hx => ⟨_, rfl, .v (tupD x), [some (.v d), some (.v x)], ?_, rfl, rfl⟩
    have e1 := hi x hx
    simp [evE, evA, callF, lend, back, e1]
  have hR := lcR_ok (own := [1]) (tg := .nm 1) (c := evOT (Phi T k) none) (f := evE (Phi T k) (.call f (.ref 1 .nil) [])) (ρ := [some (.v d), none]) hz hl
  have e2 := ev_bi (b := .tuple) (s := .v (.tup (ds.map tupD))) (evP_val (ev_lc (evI_sq (e := .var 0) (Φ := Phi T k) (ρ := [some (.v d), none]) (s := .v d) (ρ' := [some (.v d), none]) (by simp [evE]) hitm) hR)) rfl
  have e3 : evE (Phi T k) (.ite (.tr (.val (.isk .seq (.pk 0)))) (.bi .tuple (.val (.lc [1] (.nm 1) (.sq (.var 0)) none (.call f (.ref 1 .nil) [])))) (.var 0)) [some (.v d), none] = .ok (.v (.tup (ds.map tupD))) (restE (Rf.fzs [some (.v d), none] [1]) [some (.v d), none] [1]) := by
    rw [evE, R.bind_of (a := true) (ρ := [some (.v d), none]) (by simp [evE, evT, evP, hseq]), if_pos rfl]
    exact e2
  rw [Phi]
  simp only [h, runF, tupledC, List.length_cons, List.length_nil, if_true, fzP, List.contains_nil, Bool.false_eq_true, if_false, List.map_cons, List.map_nil, Nat.reduceAdd, Nat.reduceSub, List.replicate, List.cons_append, List.nil_append]
  rw [ss_c, evS, e3]
  rfl
theorem tup_ok {T : Nat → Option Fn} {f : Nat} (h : T f = some (.py (tupledC f))) : ∀ (k : Nat) (d : D), sml d = true → dep d < k → Phi T k f [.v d] = .ok (.v (tupD d)) [.v d]
  | 0, d, _, hk => absurd hk (Nat.not_lt_zero _)
  | k + 1, d, hs, hk => by
    have other : isK .seq d = some false → tupD d = d → Phi T (k + 1) f [.v d] = .ok (.v (tupD d)) [.v d] := fun h1 h2 => by
      rw [Phi]
      simp only [h, runF, tupledC]
      simp [fzP, evS, evE, evT, evP, h1, h2, give]
    cases d with
    | tup ds =>
      rw [sml, Bool.and_eq_true, decide_eq_true_eq] at hs
      rw [dep] at hk
      rw [tup_step h k _ ds (.inl rfl) hs.1 fun x hx => tup_ok h k x (smls_mem hs.2 x hx) (by have := dep_mem hx; omega), tupD, tupDs_map]
    | lst ds =>
      rw [sml, Bool.and_eq_true, decide_eq_true_eq] at hs
      rw [dep] at hk
      rw [tup_step h k _ ds (.inr rfl) hs.1 fun x hx => tup_ok h k x (smls_mem hs.2 x hx) (by have := dep_mem hx; omega), tupD, tupDs_map]
    | fn _ => cases hs
    | scr _ => cases hs
    | dic _ => cases hs
    | non => exact other rfl (by simp [tupD])
    | bl _ => exact other rfl (by simp [tupD])
    | int _ => exact other rfl (by simp [tupD])
    | str _ => exact other rfl (by simp [tupD])
end Rf

/-! Pu3: common_of, fractions. -/
namespace Rf
theorem gcd_fmod (x y : Int) : Nat.gcd y.natAbs (x.fmod y).natAbs = Nat.gcd x.natAbs y.natAbs := by
  have e : x = y * x.fdiv y + x.fmod y := (Int.mul_fdiv_add_fmod x y).symm
  have e2 : x.fmod y = x - y * x.fdiv y := by omega
  apply Nat.dvd_antisymm
  · apply Nat.dvd_gcd
    · apply Int.ofNat_dvd_left.mp
      have h1 : ((Nat.gcd y.natAbs (x.fmod y).natAbs : Nat) : Int) ∣ y := Int.ofNat_dvd_left.mpr (Nat.gcd_dvd_left _ _)
      have h2 : ((Nat.gcd y.natAbs (x.fmod y).natAbs : Nat) : Int) ∣ x.fmod y := Int.ofNat_dvd_left.mpr (Nat.gcd_dvd_right _ _)
      have := Int.dvd_add (Int.dvd_trans h1 (Int.dvd_mul_right y (x.fdiv y))) h2
      rw [← e] at this
      exact this
    · exact Nat.gcd_dvd_left _ _
  · apply Nat.dvd_gcd
    · exact Nat.gcd_dvd_right _ _
    · apply Int.ofNat_dvd_left.mp
      rw [e2]
      have h1 : ((Nat.gcd x.natAbs y.natAbs : Nat) : Int) ∣ x := Int.ofNat_dvd_left.mpr (Nat.gcd_dvd_left _ _)
      have h2 : ((Nat.gcd x.natAbs y.natAbs : Nat) : Int) ∣ y := Int.ofNat_dvd_left.mpr (Nat.gcd_dvd_right _ _)
      exact Int.dvd_sub h1 (Int.dvd_trans h2 (Int.dvd_mul_right _ _))
theorem fmod_abs (x y : Int) (hy : y ≠ 0) : (x.fmod y).natAbs < y.natAbs := by
  have h1 := Int.emod_nonneg x hy
  have h2 : x % y < (y.natAbs : Int) := Int.emod_lt x hy
  rw [Int.fmod_eq_emod]
  split
  · omega
  · rename_i h
    have h4 : ¬ y ∣ x := fun z => h (.inr z)
    have h5 : x % y ≠ 0 := fun z => h4 (Int.dvd_of_emod_eq_zero z)
    have h6 : ¬ 0 ≤ y := fun z => h (.inl z)
    omega
theorem whL_succ (c : Env → R Bool) (b : Env → O) (n : Nat) (ρ : Env) : whL c b (n + 1) ρ = (c ρ).stm fun t ρ =>
    if t then
      match b ρ with
      | .nx ρ => whL c b n ρ
      | .ct ρ => whL c b n ρ
      | .bk ρ => .nx ρ
      | o => o
    else .nx ρ := rfl
def comT : T := .cmp .ne (.pk 1) (.val (.cst (.int 0)))
def comB : Ss := .cons (.par [0, 1] (.cons (.var 1) (.cons (.bin .mod (.pk 0) (.pk 1)) .nil))) .nil
theorem com_loop (Φ : PhiT) : ∀ (n : Nat) (x y : Int), y.natAbs < n → ∃ x' : Int, x'.natAbs = Nat.gcd x.natAbs y.natAbs ∧ whL (evT Φ comT) (evSs Φ comB) n [some (.v (.int x)), some (.v (.int y))] = .nx [some (.v (.int x')), some (.v (.int 0))]
  | 0, x, y, h => absurd h (Nat.not_lt_zero _)
  | n + 1, x, y, h => by
    by_cases h0 : y = 0
    · subst h0
      refine ⟨x, by simp, ?_⟩
      rw [whL_succ]
      have : evT Φ comT [some (.v (.int x)), some (.v (.int 0))] = .ok false [some (.v (.int x)), some (.v (.int 0))] := by simp [comT, evT, evP, evE]
      rw [this]
      rfl
    · obtain ⟨x', e1, e2⟩ := com_loop Φ n y (x.fmod y) (by have := fmod_abs x y h0; omega)
      refine ⟨x', by rw [e1, gcd_fmod], ?_⟩
      rw [whL_succ]
      have h1 : evT Φ comT [some (.v (.int x)), some (.v (.int y))] = .ok true [some (.v (.int x)), some (.v (.int y))] := by simp [comT, evT, evP, evE, h0]
      have h2 : evSs Φ comB [some (.v (.int x)), some (.v (.int y))] = .nx [some (.v (.int y)), some (.v (.int (x.fmod y)))] := by simp [comB, evS, evSl, evE, evP, parS, h0]
      rw [h1, R.stm_ok]
      rw [if_pos rfl, h2]
      exact e2
theorem FUEL_eq : FUEL = 2 ^ 255 := rfl
theorem com_ok {T : Nat → Option Fn} {f : Nat} (h : T f = some (.py comC)) (k : Nat) (x y : Int) (hy : y.natAbs < 2 ^ 255) : Phi T (k + 1) f [.v (.int x), .v (.int y)] = .ok (.v (.int (Nat.gcd x.natAbs y.natAbs))) [.v (.int x), .v (.int y)] := by
  obtain ⟨x', e1, e2⟩ := com_loop (Phi T k) FUEL x y (by rw [FUEL_eq]; exact hy)
  have ab : (if x' < 0 then -x' else x') = ((x'.natAbs : Nat) : Int) := by split <;> omega
  have e3 : evSs (Phi T k) comC.body [some (.v (.int x)), some (.v (.int y))] = .rt (.v (.int (Nat.gcd x.natAbs y.natAbs))) [some (.v (.int x')), some (.v (.int 0))] := by
    show evSs (Phi T k) (.cons (.whl comT comB) (.cons (.ret (.bi .abs (.pk 0))) .nil)) _ = _
    rw [ss_c, evS, e2, O.then_nx]
    simp [evS, evE, evP, ab, e1]
  rw [Phi]
  simp only [h, runF]
  have e3 : evSs (Phi T k) comC.body (List.map some (fzP comC.st 0 [.v (.int x), .v (.int y)]) ++ List.replicate (comC.nl - comC.np) none) = _ := e3
  rw [e3]
  rfl
/-! ### fractions and their parts -/
def fracC (l n g : Nat) : Fc := ⟨1, 1, [], (.cons (.ret (.and2 (.call l (.ref 0 (.val (.cst (.int 2)) .nil)) []) (.and2 (.call n (.ref 0 .nil) []) (.and2 (.tst (.cmp .gt (.val (.ix (.pk 0) (.val (.cst (.int 1))))) (.val (.cst (.int 0))))) (.tst (.cmp .eq (.val (.call g (.val (.ix (.pk 0) (.val (.cst (.int 0)))) (.val (.ix (.pk 0) (.val (.cst (.int 1)))) .nil)) [])) (.val (.cst (.int 1))))))))) .nil)⟩
def sfracC (t i : Nat) : Fc := ⟨2, 3, [], (.cons (.asg (.nm 2) (.call t (.ref 0 .nil) [])) (.cons (.ite (.or2 (.not (.tr (.val (.call i (.ref 2 .nil) [])))) (.or2 (.cmp .gt (.val (.bi .abs (.val (.ix (.pk 2) (.val (.cst (.int 0))))))) (.pk 1)) (.cmp .gt (.val (.ix (.pk 2) (.val (.cst (.int 1))))) (.pk 1)))) (.cons (.raise 1) .nil) .nil) (.cons (.ret (.mv 2)) .nil)))⟩
def timesC : Fc := ⟨2, 10, [], (.cons (.asg (.tup [(.tup [(.nm 2), (.nm 3)]), (.tup [(.nm 4), (.nm 5)])]) (.var 0)) (.cons (.asg (.tup [(.tup [(.nm 6), (.nm 7)]), (.tup [(.nm 8), (.nm 9)])]) (.var 1)) (.cons (.ret (.tup (.cons (.tup (.cons (.bin .add (.val (.bin .mul (.pk 2) (.pk 6))) (.val (.bin .mul (.pk 3) (.pk 8)))) (.cons (.bin .add (.val (.bin .mul (.pk 2) (.pk 7))) (.val (.bin .mul (.pk 3) (.pk 9)))) .nil))) (.cons (.tup (.cons (.bin .add (.val (.bin .mul (.pk 4) (.pk 6))) (.val (.bin .mul (.pk 5) (.pk 8)))) (.cons (.bin .add (.val (.bin .mul (.pk 4) (.pk 7))) (.val (.bin .mul (.pk 5) (.pk 9)))) .nil))) .nil)))) .nil)))⟩
def partsC : Fc := ⟨2, 3, [0, 1], (.cons (.asg (.nm 2) (.lst .nil)) (.cons (.whl (.cmp .ne (.pk 1) (.val (.cst (.int 0)))) (.cons (.ex (.app 2 (.bin .fdiv (.pk 0) (.pk 1)))) (.cons (.par [0, 1] (.cons (.var 1) (.cons (.bin .mod (.pk 0) (.pk 1)) .nil))) .nil))) (.cons (.ret (.bi .tuple (.pk 2))) .nil)))⟩
def ispartsC (n : Nat) : Fc := ⟨1, 2, [], (.cons (.ret (.and2 (.call n (.ref 0 .nil) []) (.and2 (.tst (.cmp .gt (.val (.bi .len (.pk 0))) (.val (.cst (.int 0))))) (.bi .all (.val (.lc [1] (.nm 1) (.sq (.slc (.pk 0) (some (.cst (.int 1))) none)) none (.tst (.cmp .gt (.pk 1) (.val (.cst (.int 0))))))))))) .nil)⟩
def spartsC (t i : Nat) : Fc := ⟨1, 3, [], (.cons (.asg (.nm 1) (.call t (.ref 0 .nil) [])) (.cons (.ite (.or2 (.not (.tr (.val (.call i (.ref 1 .nil) [])))) (.or2 (.cmp .gt (.val (.bi .len (.pk 1))) (.val (.cst (.int 60)))) (.tr (.val (.bi .any (.val (.lc [2] (.nm 2) (.sq (.var 1)) none (.tst (.cmp .gt (.val (.bi .abs (.pk 2))) (.val (.cst (.int 1000000)))))))))))) (.cons (.raise 1) .nil) .nil) (.cons (.ret (.mv 1)) .nil)))⟩
def fpartsC (s p : Nat) : Fc := ⟨1, 2, [], (.cons (.asg (.nm 1) (.call s (.ref 0 (.val (.cst (.int 1000000000000)) .nil)) [])) (.cons (.ret (.call p (.val (.ix (.pk 1) (.val (.cst (.int 0)))) (.val (.ix (.pk 1) (.val (.cst (.int 1)))) .nil)) [])) .nil))⟩
def nearC (s t : Nat) : Fc := ⟨1, 5, [], (.cons (.par [1, 2, 3] (.cons (.call s (.ref 0 .nil) []) (.cons (.cst (.tup [(.tup [(.int 1), (.int 0)]), (.tup [(.int 0), (.int 1)])])) (.cons (.lst .nil) .nil)))) (.cons (.fr (.nm 4) (.sq (.var 1)) (.cons (.asg (.nm 2) (.call t (.ref 2 (.val (.tup (.cons (.tup (.cons (.var 4) (.cons (.cst (.int 1)) .nil))) (.cons (.tup (.cons (.cst (.int 1)) (.cons (.cst (.int 0)) .nil))) .nil))) .nil)) [])) (.cons (.ex (.app 3 (.tup (.cons (.ix (.val (.ix (.pk 2) (.val (.cst (.int 0))))) (.val (.cst (.int 0)))) (.cons (.ix (.val (.ix (.pk 2) (.val (.cst (.int 1))))) (.val (.cst (.int 0)))) .nil))))) .nil))) (.cons (.ret (.mv 3)) .nil)))⟩
def slimC (g : Nat) : Fc := ⟨2, 3, [], (.cons (.asg (.nm 2) (.call g (.ref 0 (.ref 1 .nil)) [])) (.cons (.ret (.ite (.cmp .gt (.pk 1) (.val (.cst (.int 0)))) (.tup (.cons (.bin .fdiv (.pk 0) (.pk 2)) (.cons (.bin .fdiv (.pk 1) (.pk 2)) .nil))) (.tup (.cons (.bin .sub (.val (.cst (.int 0))) (.val (.bin .fdiv (.pk 0) (.pk 2)))) (.cons (.bin .sub (.val (.cst (.int 0))) (.val (.bin .fdiv (.pk 1) (.pk 2)))) .nil))))) .nil))⟩
def lessC : Fc := ⟨2, 2, [], (.cons (.ret (.tst (.cmp .lt (.val (.bin .mul (.val (.ix (.pk 0) (.val (.cst (.int 0))))) (.val (.ix (.pk 1) (.val (.cst (.int 1))))))) (.val (.bin .mul (.val (.ix (.pk 1) (.val (.cst (.int 0))))) (.val (.ix (.pk 0) (.val (.cst (.int 1)))))))))) .nil)⟩
def gapC : Fc := ⟨2, 2, [], (.cons (.ret (.tup (.cons (.bi .abs (.val (.bin .sub (.val (.bin .mul (.val (.ix (.pk 0) (.val (.cst (.int 0))))) (.val (.ix (.pk 1) (.val (.cst (.int 1))))))) (.val (.bin .mul (.val (.ix (.pk 1) (.val (.cst (.int 0))))) (.val (.ix (.pk 0) (.val (.cst (.int 1)))))))))) (.cons (.bin .mul (.val (.ix (.pk 0) (.val (.cst (.int 1))))) (.val (.ix (.pk 1) (.val (.cst (.int 1)))))) .nil)))) .nil)⟩
theorem at_m1 {α : Type} (ds : List α) : atI ds (-1) = ds[ds.length - 1]? := by
  unfold atI ixN
  rw [if_neg (by decide)]
  by_cases h : ds.length = 0
  · rw [if_neg (by omega), List.getElem?_eq_none (by omega)]
    rfl
  · rw [if_pos (by omega)]
    show ds[((-1 : Int) + (ds.length : Int)).toNat]? = _
    congr 1
    omega
theorem less_ok {T : Nat → Option Fn} {f : Nat} (h : T f = some (.py lessC)) (k : Nat) (a b c d : Int) (h1 : a.natAbs < 18446744073709551616) (h2 : c.natAbs < 18446744073709551616) :
    Phi T (k + 1) f [.v (.tup [.int a, .int b]), .v (.tup [.int c, .int d])] = .ok (.v (.bl (decide (a * d < c * b)))) [.v (.tup [.int a, .int b]), .v (.tup [.int c, .int d])] := by
  rw [Phi]
  simp only [h, runF, lessC]
  simp [fzP, evS, evE, evT, evP, give, h1, h2]
theorem abs_int (z : Int) : (if z < 0 then -z else z) = ((z.natAbs : Nat) : Int) := by split <;> omega
theorem gap_ok {T : Nat → Option Fn} {f : Nat} (h : T f = some (.py gapC)) (k : Nat) (a b c d : Int) (h1 : a.natAbs < 18446744073709551616) (h2 : c.natAbs < 18446744073709551616) (h3 : b.natAbs < 18446744073709551616) :
    Phi T (k + 1) f [.v (.tup [.int a, .int b]), .v (.tup [.int c, .int d])] = .ok (.v (.tup [.int ((a * d - c * b).natAbs : Nat), .int (b * d)])) [.v (.tup [.int a, .int b]), .v (.tup [.int c, .int d])] := by
  rw [Phi]
  simp only [h, runF, gapC]
  simp [fzP, evS, evE, evEs, evT, evP, give, h1, h2, h3, SZ, abs_int]
theorem times_ok {T : Nat → Option Fn} {f : Nat} (h : T f = some (.py timesC)) (k : Nat) (a b c d x : Int) (hx : x.natAbs < 18446744073709551616) :
    Phi T (k + 1) f [.v (.tup [.tup [.int a, .int b], .tup [.int c, .int d]]), .v (.tup [.tup [.int x, .int 1], .tup [.int 1, .int 0]])] =
      .ok (.v (.tup [.tup [.int (a * x + b), .int a], .tup [.int (c * x + d), .int c]])) [.v (.tup [.tup [.int a, .int b], .tup [.int c, .int d]]), .v (.tup [.tup [.int x, .int 1], .tup [.int 1, .int 0]])] := by
  rw [Phi]
  simp only [h, runF, timesC]
  simp [fzP, evS, evE, evEs, evT, evP, give, hx, SZ]
theorem frac_ok {T : Nat → Option Fn} {f l n g m : Nat} (h : T f = some (.py (fracC l n g))) (h1 : T l = some (.py longC)) (h2 : T n = some (.py (numsC m))) (h3 : T m = some (.py numC)) (h4 : T g = some (.py comC)) (k : Nat) (p q : Int) (hq : 0 < q) (hq2 : q.natAbs < 2 ^ 255) (hg : Nat.gcd p.natAbs q.natAbs = 1) :
    Phi T (k + 3) f [.v (.tup [.int p, .int q])] = .ok (.v (.bl true)) [.v (.tup [.int p, .int q])] := by
  have e1 := long_ok h1 (k + 1) (.tup [.int p, .int q]) 2 rfl
  have e2 := nums_ok h2 h3 k (.tup [.int p, .int q]) rfl (fun ds e => by cases e; show 2 ≤ SZ; decide)
  have e3 := com_ok h4 (k + 1) p q hq2
  rw [hg] at e3
  simp only [List.all_cons, List.all_nil, isNum, Bool.and_self] at e2
  simp only [List.length_cons, List.length_nil] at e1
  rw [Phi]
  simp only [h, runF, fracC]
  simp [fzP, evS, evE, evA, evT, evP, callF, lend, back, give, e1, e2, e3, hq]
theorem sfrac_ok {T : Nat → Option Fn} {f t i : Nat} (h : T f = some (.py (sfracC t i))) (h1 : T t = some (.py (tupledC t))) (k : Nat) (p q m : Int) (hi : Phi T (k + 3) i [.v (.tup [.int p, .int q])] = .ok (.v (.bl true)) [.v (.tup [.int p, .int q])]) (hp : (p.natAbs : Int) ≤ m) (hq : q ≤ m) :
    Phi T (k + 4) f [.v (.tup [.int p, .int q]), .v (.int m)] = .ok (.v (.tup [.int p, .int q])) [.v (.tup [.int p, .int q]), .v (.int m)] := by
  have e1 := tup_ok h1 (k + 3) (.tup [.int p, .int q]) (by simp [sml, smls, SZ]) (by simp [dep, deps])
  simp only [tupD, tupDs] at e1
  have hp2 : ¬ m < (p.natAbs : Int) := by omega
  have hq2 : ¬ m < q := by omega
  rw [Phi]
  simp only [h, runF, sfracC]
  simp [fzP, evS, evE, evA, evT, evP, callF, lend, back, give, e1, hi, abs_int, hp2, hq2]
/-- the parts -/
def partsF : Nat → Int → Int → List Int
  | 0, _, _ => []
  | n + 1, x, y => if y = 0 then [] else x.fdiv y :: partsF n y (x.fmod y)
theorem app_len (l : List Int) (x : Int) : (l ++ [x]).map D.int = l.map D.int ++ [D.int x] := by simp
def partB : Ss := .cons (.ex (.app 2 (.bin .fdiv (.pk 0) (.pk 1)))) (.cons (.par [0, 1] (.cons (.var 1) (.cons (.bin .mod (.pk 0) (.pk 1)) .nil))) .nil)
theorem parts_loop (Φ : PhiT) : ∀ (n N : Nat) (x y : Int) (acc : List Int), y.natAbs < n → n ≤ N → y.natAbs < 18446744073709551616 → acc.length + y.natAbs < SZ → ∃ x' : Int,
    whL (evT Φ comT) (evSs Φ partB) N [some (.v (.int x)), some (.v (.int y)), some (.o (.lst (acc.map .int)))] = .nx [some (.v (.int x')), some (.v (.int 0)), some (.o (.lst ((acc ++ partsF n x y).map .int)))]
  | 0, N, x, y, acc, h, _, _, _ => absurd h (Nat.not_lt_zero _)
  | n + 1, N, x, y, acc, h, hN, h64, hz => by
    obtain ⟨N, rfl⟩ : ∃ N', N = N' + 1 := ⟨N - 1, by omega⟩
    rw [whL_succ]
    by_cases h0 : y = 0
    · subst h0
      have e1 : evT Φ comT [some (.v (.int x)), some (.v (.int 0)), some (.o (.lst (acc.map .int)))] = .ok false [some (.v (.int x)), some (.v (.int 0)), some (.o (.lst (acc.map .int)))] := by simp [comT, evT, evP, evE]
      refine ⟨x, ?_⟩
      rw [e1, R.stm_ok, if_neg Bool.false_ne_true, partsF, if_pos rfl, List.append_nil]
    · have h1 := fmod_abs x y h0
      have hl : (acc.map D.int).length < SZ := by
        rw [List.length_map]
        omega
      have hl2 : acc.length < SZ := by omega
      have e1 : evT Φ comT [some (.v (.int x)), some (.v (.int y)), some (.o (.lst (acc.map .int)))] = .ok true [some (.v (.int x)), some (.v (.int y)), some (.o (.lst (acc.map .int)))] := by simp [comT, evT, evP, evE, h0]
      have e2 : evSs Φ partB [some (.v (.int x)), some (.v (.int y)), some (.o (.lst (acc.map .int)))] = .nx [some (.v (.int y)), some (.v (.int (x.fmod y))), some (.o (.lst ((acc ++ [x.fdiv y]).map .int)))] := by
        simp [partB, evS, evSl, evE, evP, parS, appS, h0, h64, hl2]
      obtain ⟨x', e3⟩ := parts_loop Φ n N y (x.fmod y) (acc ++ [x.fdiv y]) (by omega) (by omega) (by omega) (by rw [List.length_append, List.length_singleton]; omega)
      refine ⟨x', ?_⟩
      rw [e1, R.stm_ok, if_pos rfl, e2]
      dsimp only
      rw [e3, partsF, if_neg h0, List.append_assoc]
      rfl
theorem parts_ok {T : Nat → Option Fn} {f : Nat} (h : T f = some (.py partsC)) (k : Nat) (x y : Int) (hy : y.natAbs < 16777215) :
    Phi T (k + 1) f [.v (.int x), .v (.int y)] = .ok (.v (.tup ((partsF (y.natAbs + 1) x y).map .int))) [.v (.int x), .v (.int y)] := by
  obtain ⟨x', e2⟩ := parts_loop (Phi T k) (y.natAbs + 1) FUEL x y [] (by omega) (by
    rw [FUEL_eq]
    have : (16777216 : Nat) ≤ 2 ^ 255 := Nat.le_trans (show 16777216 ≤ 2 ^ 24 by decide) (Nat.pow_le_pow_right (by decide) (by decide))
    omega) (by omega) (by show 0 + y.natAbs < 16777216; omega)
  rw [List.nil_append] at e2
  have e3 : evSs (Phi T k) partsC.body [some (.v (.int x)), some (.v (.int y)), none] = .rt (.v (.tup ((partsF (y.natAbs + 1) x y).map .int))) [some (.v (.int x')), some (.v (.int 0)), some (.o (.lst ((partsF (y.natAbs + 1) x y).map .int)))] := by
    show evSs (Phi T k) (.cons (.asg (.nm 2) (.lst .nil)) (.cons (.whl comT partB) (.cons (.ret (.bi .tuple (.pk 2))) .nil))) _ = _
    rw [ss_c]
    have e4 : evS (Phi T k) (.asg (.nm 2) (.lst .nil)) [some (.v (.int x)), some (.v (.int y)), none] = .nx [some (.v (.int x)), some (.v (.int y)), some (.o (.lst []))] := by simp [evS, evE, evEs, SZ]
    rw [e4, O.then_nx, ss_c, evS]
    have e2 : whL (evT (Phi T k) comT) (evSs (Phi T k) partB) FUEL [some (.v (.int x)), some (.v (.int y)), some (.o (.lst []))] = _ := e2
    rw [e2, O.then_nx]
    simp [evS, evE, evP]
  rw [Phi]
  simp only [h, runF]
  have e3 : evSs (Phi T k) partsC.body (List.map some (fzP partsC.st 0 [.v (.int x), .v (.int y)]) ++ List.replicate (partsC.nl - partsC.np) none) = _ := e3
  rw [e3]
  rfl
end Rf

/-! Pu4: PARTS, near FRACTIONS. -/
namespace Rf
theorem pln_ints : ∀ xs : List Int, plns (xs.map D.int) = true
  | [] => rfl
  | x :: xs => by rw [List.map_cons, plns, pln_ints xs]; rfl
theorem smls_ints : ∀ xs : List Int, smls (xs.map D.int) = true
  | [] => by simp [smls]
  | x :: xs => by rw [List.map_cons, smls, smls_ints xs]; rfl
theorem deps_ints : ∀ xs : List Int, deps (xs.map D.int) = 0
  | [] => rfl
  | x :: xs => by rw [List.map_cons, deps, deps_ints xs]; rfl
theorem tupDs_ints : ∀ xs : List Int, tupDs (xs.map D.int) = xs.map D.int
  | [] => by simp [tupDs]
  | x :: xs => by rw [List.map_cons, tupDs, tupDs_ints xs]; simp [tupD]
theorem all_isNum : ∀ xs : List Int, (xs.map D.int).all isNum = true
  | [] => rfl
  | x :: xs => by rw [List.map_cons, List.all_cons, all_isNum xs]; rfl
theorem tup_ints {T : Nat → Option Fn} {f : Nat} (h : T f = some (.py (tupledC f))) (k : Nat) (xs : List Int) (hl : xs.length ≤ SZ) : Phi T (k + 2) f [.v (.tup (xs.map .int))] = .ok (.v (.tup (xs.map .int))) [.v (.tup (xs.map .int))] := by
  have := tup_ok h (k + 2) (.tup (xs.map .int)) (by rw [sml, smls_ints, List.length_map, decide_eq_true hl]; rfl) (by rw [dep, deps_ints]; omega)
  rw [tupD, tupDs_ints] at this
  exact this
theorem nums_ints {T : Nat → Option Fn} {f g : Nat} (h : T f = some (.py (numsC g))) (hg : T g = some (.py numC)) (k : Nat) (xs : List Int) (hl : xs.length ≤ SZ) : Phi T (k + 2) f [.v (.tup (xs.map .int))] = .ok (.v (.bl true)) [.v (.tup (xs.map .int))] := by
  have := nums_ok h hg k (.tup (xs.map .int)) (pln_ints xs) (fun ds e => by cases e; rw [List.length_map]; exact hl)
  simp only [all_isNum] at this
  exact this
theorem cut_tail {α : Type} (xs : List α) : cut xs (some 1) none = xs.tail := by
  unfold cut
  rw [show (1 : Int) = ((1 : Nat) : Int) from rfl, sIx_nat]
  show (xs.drop (min 1 xs.length)).take (xs.length - min 1 xs.length) = _
  cases xs with
  | nil => rfl
  | cons x xs =>
    rw [List.length_cons, show min 1 (xs.length + 1) = 1 by omega]
    simp
/-- a comprehension over ints of a test -/
theorem lc_test {Φ : PhiT} {i : Nat} {tg : Tg} {e : E} {own : List Nat} {ρ : Env} (p : Int → Bool) (xs : List Int) (h : ∀ x ∈ xs, ∃ ρ1, asg tg (.v (.int x)) ρ = some ρ1 ∧ ∃ ρ3, evE Φ e ρ1 = .ok (.v (.bl (p x))) ρ3 ∧ wipeE ρ3 own = ρ) :
    lcL tg (evOT Φ none) (evE Φ e) own (xs.map .int) ρ = .ok (xs.map fun x => .bl (p x)) ρ := by
  have := lcL_map (Φ := Φ) (tg := tg) (f := evE Φ e) (own := own) (ρ := ρ) (g := fun d => match d with | .int x => .bl (p x) | _ => .non) (xs := xs.map .int) fun d hd => by
    obtain ⟨x, hx, rfl⟩ := List.mem_map.mp hd
    obtain ⟨ρ1, h1, ρ3, h2, h3⟩ := h x hx
    exact ⟨ρ1, h1, _, ρ3, h2, rfl, h3⟩
  rw [this, List.map_map]
  rfl
theorem isparts_ok {T : Nat → Option Fn} {f n m : Nat} (h : T f = some (.py (ispartsC n))) (h2 : T n = some (.py (numsC m))) (h3 : T m = some (.py numC)) (k : Nat) (xs : List Int) (h0 : xs ≠ []) (ht : ∀ x ∈ xs.tail, 0 < x) (hl : xs.length ≤ SZ) :
    Phi T (k + 3) f [.v (.tup (xs.map .int))] = .ok (.v (.bl true)) [.v (.tup (xs.map .int))] := by
  have e1 := nums_ints h2 h3 k xs hl
  have hpos : 0 < xs.length := List.length_pos_iff.mpr h0
  have e2 := lc_test (i := 0) (Φ := Phi T (k + 2)) (tg := .nm 1) (e := .tst (.cmp .gt (.pk 1) (.val (.cst (.int 0))))) (own := [1]) (ρ := [some (.v (.tup (xs.map .int))), none]) (fun x => decide (0 < x)) xs.tail fun x hx => ⟨_, rfl, [some (.v (.tup (xs.map .int))), some (.v (.int x))], by simp [evE, evT, evP], rfl⟩
  have e3 := lcR_ok (own := [1]) (ρ := [some (.v (.tup (xs.map .int))), none]) (by rw [List.length_map, List.length_tail]; omega) e2
  have hb : biD .all (.lst (xs.tail.map fun x => .bl (decide (0 < x)))) = some (.v (.bl true)) := by
    show (boolsD _).map _ = _
    rw [boolsD_map]
    have : (xs.tail.map fun x => decide (0 < x)).all id = true := by
      rw [List.all_map, List.all_eq_true]
      intro x hx
      exact decide_eq_true (ht x hx)
    rw [Option.map_some, this]
  have e4 := ev_bi (evP_val (ev_lc (evI_sq (Φ := Phi T (k + 2)) (e := .slc (.pk 0) (some (.cst (.int 1))) none) (ρ := [some (.v (.tup (xs.map .int))), none]) (s := .v (.tup (xs.tail.map .int))) (ρ' := [some (.v (.tup (xs.map .int))), none]) (by
    simp [evE, evP, evOI, slD, cut_tail]) rfl) e3)) hb
  have e5 : evE (Phi T (k + 2)) (.and2 (.call n (.ref 0 .nil) []) (.and2 (.tst (.cmp .gt (.val (.bi .len (.pk 0))) (.val (.cst (.int 0))))) (.bi .all (.val (.lc [1] (.nm 1) (.sq (.slc (.pk 0) (some (.cst (.int 1))) none)) none (.tst (.cmp .gt (.pk 1) (.val (.cst (.int 0)))))))))) [some (.v (.tup (xs.map .int))), none] = .ok (.v (.bl true)) (restE (Rf.fzs [some (.v (.tup (xs.map .int))), none] [1]) [some (.v (.tup (xs.map .int))), none] [1]) := by
    rw [evE, R.bind_of (a := .v (.bl true)) (ρ := [some (.v (.tup (xs.map .int))), none]) (by simp [evE, evA, callF, lend, back, e1])]
    show evE _ _ _ = _
    rw [evE, R.bind_of (a := .v (.bl true)) (ρ := [some (.v (.tup (xs.map .int))), none]) (by simp [evE, evT, evP, hpos])]
    exact e4
  have e6 : evSs (Phi T (k + 2)) (ispartsC n).body [some (.v (.tup (xs.map .int))), none] = .rt (.v (.bl true)) (restE (Rf.fzs [some (.v (.tup (xs.map .int))), none] [1]) [some (.v (.tup (xs.map .int))), none] [1]) := by
    show evSs _ (.cons (.ret _) .nil) _ = _
    rw [ss_c, evS, e5]
    rfl
  rw [Phi]
  simp only [h, runF]
  have e6 : evSs (Phi T (k + 2)) (ispartsC n).body (List.map some (fzP (ispartsC n).st 0 [.v (.tup (xs.map .int))]) ++ List.replicate ((ispartsC n).nl - (ispartsC n).np) none) = _ := e6
  rw [e6]
  rfl
theorem sparts_ok {T : Nat → Option Fn} {f t i n m : Nat} (h : T f = some (.py (spartsC t i))) (h1 : T t = some (.py (tupledC t))) (hi : T i = some (.py (ispartsC n))) (h2 : T n = some (.py (numsC m))) (h3 : T m = some (.py numC)) (k : Nat) (xs : List Int) (h0 : xs ≠ []) (ht : ∀ x ∈ xs.tail, 0 < x) (hl : xs.length ≤ 60) (hx : ∀ x ∈ xs, x.natAbs ≤ 1000000) :
    Phi T (k + 4) f [.v (.tup (xs.map .int))] = .ok (.v (.tup (xs.map .int))) [.v (.tup (xs.map .int))] := by
  have hz : xs.length ≤ SZ := Nat.le_trans hl (by decide)
  have e1 := tup_ints h1 (k + 1) xs hz
  have e2 := isparts_ok hi h2 h3 k xs h0 ht hz
  have l1 : ¬ (60 : Int) < (xs.length : Int) := by omega
  have e3 := lc_test (i := 0) (Φ := Phi T (k + 3)) (tg := .nm 2) (e := .tst (.cmp .gt (.val (.bi .abs (.pk 2))) (.val (.cst (.int 1000000))))) (own := [2]) (ρ := [some (.v (.tup (xs.map .int))), some (.v (.tup (xs.map .int))), none]) (fun x => decide ((1000000 : Int) < (x.natAbs : Int))) xs fun x hx => ⟨_, rfl, [some (.v (.tup (xs.map .int))), some (.v (.tup (xs.map .int))), some (.v (.int x))], by simp [evE, evT, evP, abs_int], rfl⟩
  have e4 := lcR_ok (own := [2]) (ρ := [some (.v (.tup (xs.map .int))), some (.v (.tup (xs.map .int))), none]) (by rw [List.length_map]; exact hz) e3
  have hb : biD .any (.lst (xs.map fun x => .bl (decide ((1000000 : Int) < (x.natAbs : Int))))) = some (.v (.bl false)) := by
    show (boolsD _).map _ = _
    rw [boolsD_map]
    have : (xs.map fun x => decide ((1000000 : Int) < (x.natAbs : Int))).any id = false := by
      rw [List.any_map, List.any_eq_false]
      intro x hx'
      have := hx x hx'
      simp
      omega
    rw [Option.map_some, this]
  have e5 := ev_bi (evP_val (ev_lc (evI_sq (Φ := Phi T (k + 3)) (e := .var 1) (ρ := [some (.v (.tup (xs.map .int))), some (.v (.tup (xs.map .int))), none]) (s := .v (.tup (xs.map .int))) (ρ' := [some (.v (.tup (xs.map .int))), some (.v (.tup (xs.map .int))), none]) (by simp [evE]) rfl) e4)) hb
  have e6 : evT (Phi T (k + 3)) (.or2 (.not (.tr (.val (.call i (.ref 1 .nil) [])))) (.or2 (.cmp .gt (.val (.bi .len (.pk 1))) (.val (.cst (.int 60)))) (.tr (.val (.bi .any (.val (.lc [2] (.nm 2) (.sq (.var 1)) none (.tst (.cmp .gt (.val (.bi .abs (.pk 2))) (.val (.cst (.int 1000000))))))))))))
      [some (.v (.tup (xs.map .int))), some (.v (.tup (xs.map .int))), none] = .ok false [some (.v (.tup (xs.map .int))), some (.v (.tup (xs.map .int))), none] := by
    rw [evT, R.bind_of (a := false) (ρ := [some (.v (.tup (xs.map .int))), some (.v (.tup (xs.map .int))), none]) (by simp [evT, evP, evE, evA, callF, lend, back, e2]), if_neg Bool.false_ne_true]
    rw [evT, R.bind_of (a := false) (ρ := [some (.v (.tup (xs.map .int))), some (.v (.tup (xs.map .int))), none]) (by simp [evT, evP, evE]; omega), if_neg Bool.false_ne_true]
    rw [evT, R.bind_of (evP_val e5)]
    rfl
  have e7 : evSs (Phi T (k + 3)) (spartsC t i).body [some (.v (.tup (xs.map .int))), none, none] = .rt (.v (.tup (xs.map .int))) [some (.v (.tup (xs.map .int))), some (.v (.tup (xs.map .int))), none] := by
    show evSs _ (.cons (.asg (.nm 1) (.call t (.ref 0 .nil) [])) (.cons (.ite _ _ .nil) (.cons (.ret (.mv 1)) .nil))) _ = _
    have e8 : evS (Phi T (k + 3)) (.asg (.nm 1) (.call t (.ref 0 .nil) [])) [some (.v (.tup (xs.map .int))), none, none] = .nx [some (.v (.tup (xs.map .int))), some (.v (.tup (xs.map .int))), none] := by simp [evS, evE, evA, callF, lend, back, e1]
    rw [ss_c, e8, O.then_nx, ss_c, evS, e6, R.stm_ok, if_neg Bool.false_ne_true, ss_n, O.then_nx]
    simp [evS, evE]
  rw [Phi]
  simp only [h, runF]
  have e7 : evSs (Phi T (k + 3)) (spartsC t i).body (List.map some (fzP (spartsC t i).st 0 [.v (.tup (xs.map .int))]) ++ List.replicate ((spartsC t i).nl - (spartsC t i).np) none) = _ := e7
  rw [e7]
  rfl
/-- near FRACTIONS -/
def conv (a b c d : Int) : List Int → List (Int × Int)
  | [] => []
  | x :: xs => (a * x + b, c * x + d) :: conv (a * x + b) a (c * x + d) c xs
def fracD (pq : Int × Int) : D := .tup [.int pq.1, .int pq.2]
def nearB (t : Nat) : Ss := .cons (.asg (.nm 2) (.call t (.ref 2 (.val (.tup (.cons (.tup (.cons (.var 4) (.cons (.cst (.int 1)) .nil))) (.cons (.tup (.cons (.cst (.int 1)) (.cons (.cst (.int 0)) .nil))) .nil))) .nil)) [])) (.cons (.ex (.app 3 (.tup (.cons (.ix (.val (.ix (.pk 2) (.val (.cst (.int 0))))) (.val (.cst (.int 0)))) (.cons (.ix (.val (.ix (.pk 2) (.val (.cst (.int 1))))) (.val (.cst (.int 0)))) .nil))))) .nil)
theorem near_loop {T : Nat → Option Fn} {t : Nat} (ht : T t = some (.py timesC)) (k : Nat) (s0 s1 : Option Sl) : ∀ (xs : List Int) (a b c d : Int) (acc : List (Int × Int)) (s4 : Option Sl), (∀ x ∈ xs, x.natAbs ≤ 1000000) → acc.length + xs.length ≤ 1000 → ∃ s2 s4',
    forL (.nm 4) (evSs (Phi T (k + 1)) (nearB t)) (xs.map .int) [s0, s1, some (.v (.tup [.tup [.int a, .int b], .tup [.int c, .int d]])), some (.o (.lst (acc.map fracD))), s4] = .nx [s0, s1, s2, some (.o (.lst ((acc ++ conv a b c d xs).map fracD))), s4']
  | [], a, b, c, d, acc, s4, _, _ => ⟨_, s4, by rw [conv, List.append_nil]; rfl⟩
  | x :: xs, a, b, c, d, acc, s4, hx, hl => by
    rw [List.length_cons] at hl
    have h1 := hx x (List.mem_cons_self ..)
    have e1 := times_ok ht k a b c d x (by omega)
    have hl2 : acc.length < SZ := by
      show acc.length < 16777216
      omega
    have e2 : evSs (Phi T (k + 1)) (nearB t) [s0, s1, some (.v (.tup [.tup [.int a, .int b], .tup [.int c, .int d]])), some (.o (.lst (acc.map fracD))), some (.v (.int x))] =
        .nx [s0, s1, some (.v (.tup [.tup [.int (a * x + b), .int a], .tup [.int (c * x + d), .int c]])), some (.o (.lst ((acc ++ [(a * x + b, c * x + d)]).map fracD))), some (.v (.int x))] := by
      have hl3 : acc.length < 16777216 := hl2
      simp [nearB, evS, evE, evEs, evA, evP, callF, lend, back, e1, SZ, appS, hl3, fracD]
    obtain ⟨s2, s4', e3⟩ := near_loop ht k s0 s1 xs (a * x + b) a (c * x + d) c (acc ++ [(a * x + b, c * x + d)]) (some (.v (.int x))) (fun y hy => hx y (List.mem_cons_of_mem _ hy)) (by rw [List.length_append, List.length_singleton]; omega)
    refine ⟨s2, s4', ?_⟩
    rw [List.map_cons, forL_cons, asg_nm]
    dsimp only
    simp only [List.set_cons_succ, List.set_cons_zero]
    rw [e2]
    dsimp only
    rw [e3, conv, List.append_assoc]
    rfl
theorem near_ok {T : Nat → Option Fn} {f g t : Nat} (h : T f = some (.py (nearC g t))) (ht : T t = some (.py timesC)) (k : Nat) (xs : List Int) (hg : Phi T (k + 1) g [.v (.tup (xs.map .int))] = .ok (.v (.tup (xs.map .int))) [.v (.tup (xs.map .int))]) (hx : ∀ x ∈ xs, x.natAbs ≤ 1000000) (hl : xs.length ≤ 1000) :
    Phi T (k + 2) f [.v (.tup (xs.map .int))] = .ok (.o (.lst ((conv 1 0 0 1 xs).map fracD))) [.v (.tup (xs.map .int))] := by
  obtain ⟨s2, s4, e1⟩ := near_loop ht k (some (.v (.tup (xs.map .int)))) (some (.v (.tup (xs.map .int)))) xs 1 0 0 1 [] none hx (by rw [List.length_nil]; omega)
  rw [List.nil_append] at e1
  have e2 : evSs (Phi T (k + 1)) (nearC g t).body [some (.v (.tup (xs.map .int))), none, none, none, none] = .rt (.o (.lst ((conv 1 0 0 1 xs).map fracD))) [some (.v (.tup (xs.map .int))), some (.v (.tup (xs.map .int))), s2, none, s4] := by
    show evSs _ (.cons (.par [1, 2, 3] (.cons (.call g (.ref 0 .nil) []) (.cons (.cst (.tup [(.tup [(.int 1), (.int 0)]), (.tup [(.int 0), (.int 1)])])) (.cons (.lst .nil) .nil)))) (.cons (.fr (.nm 4) (.sq (.var 1)) (nearB t)) (.cons (.ret (.mv 3)) .nil))) _ = _
    have e3 : evS (Phi T (k + 1)) (.par [1, 2, 3] (.cons (.call g (.ref 0 .nil) []) (.cons (.cst (.tup [(.tup [(.int 1), (.int 0)]), (.tup [(.int 0), (.int 1)])])) (.cons (.lst .nil) .nil)))) [some (.v (.tup (xs.map .int))), none, none, none, none] =
        .nx [some (.v (.tup (xs.map .int))), some (.v (.tup (xs.map .int))), some (.v (.tup [.tup [.int 1, .int 0], .tup [.int 0, .int 1]])), some (.o (.lst [])), none] := by
      simp [evS, evSl, evE, evEs, evA, callF, lend, back, hg, SZ, parS]
    rw [ss_c, e3, O.then_nx, ss_c]
    have e4 : evIt (Phi T (k + 1)) (.sq (.var 1)) [some (.v (.tup (xs.map .int))), some (.v (.tup (xs.map .int))), some (.v (.tup [.tup [.int 1, .int 0], .tup [.int 0, .int 1]])), some (.o (.lst [])), none] = .ok (xs.map .int) [some (.v (.tup (xs.map .int))), some (.v (.tup (xs.map .int))), some (.v (.tup [.tup [.int 1, .int 0], .tup [.int 0, .int 1]])), some (.o (.lst [])), none] :=
      evI_sq (s := .v (.tup (xs.map .int))) (by simp [evE]) rfl
    rw [evS, e4, R.stm_ok]
    have e1 : forL (.nm 4) (evSs (Phi T (k + 1)) (nearB t)) (xs.map .int) [some (.v (.tup (xs.map .int))), some (.v (.tup (xs.map .int))), some (.v (.tup [.tup [.int 1, .int 0], .tup [.int 0, .int 1]])), some (.o (.lst [])), none] = _ := e1
    rw [e1, O.then_nx]
    simp [evS, evE]
  rw [Phi]
  simp only [h, runF]
  have e2 : evSs (Phi T (k + 1)) (nearC g t).body (List.map some (fzP (nearC g t).st 0 [.v (.tup (xs.map .int))]) ++ List.replicate ((nearC g t).nl - (nearC g t).np) none) = _ := e2
  rw [e2]
  rfl
theorem fparts_ok {T : Nat → Option Fn} {f s p : Nat} (h : T f = some (.py (fpartsC s p))) (hp : T p = some (.py partsC)) (k : Nat) (x y : Int) (hs : Phi T (k + 1) s [.v (.tup [.int x, .int y]), .v (.int 1000000000000)] = .ok (.v (.tup [.int x, .int y])) [.v (.tup [.int x, .int y]), .v (.int 1000000000000)]) (hy : y.natAbs < 16777215) :
    Phi T (k + 2) f [.v (.tup [.int x, .int y])] = .ok (.v (.tup ((partsF (y.natAbs + 1) x y).map .int))) [.v (.tup [.int x, .int y])] := by
  have e1 := parts_ok hp k x y hy
  rw [Phi]
  simp only [h, runF, fpartsC]
  simp [fzP, evS, evE, evA, evP, callF, lend, back, give, hs, e1]
theorem slim_ok {T : Nat → Option Fn} {f g : Nat} (h : T f = some (.py (slimC g))) (hg : T g = some (.py gcdC)) (k : Nat) (x : Int) (y : Nat) (hy : 0 < y) (hy2 : y < 1000000) :
    Phi T (k + 2) f [.v (.int x), .v (.int y)] = .ok (.v (.tup [.int (x.fdiv (Nat.gcd x.natAbs y : Nat)), .int ((y / Nat.gcd x.natAbs y : Nat) : Int)])) [.v (.int x), .v (.int y)] := by
  have e1 := gcd_ok hg k x (y : Int) (by
    have : (1000000 : Nat) < 2 ^ 4000 := Nat.lt_of_lt_of_le (show 1000000 < 2 ^ 20 by decide) (Nat.pow_le_pow_right (by decide) (by decide))
    simp only [Int.natAbs_natCast]
    omega)
  simp only [Int.natAbs_natCast] at e1
  have g0 : 0 < Nat.gcd x.natAbs y := Nat.gcd_pos_of_pos_right _ hy
  have g1 : Nat.gcd x.natAbs y ≤ y := Nat.gcd_le_right _ hy
  generalize Nat.gcd x.natAbs y = G at *
  have g2 : G < 18446744073709551616 := by omega
  have g3 : ¬ G = 0 := by omega
  rw [Phi]
  simp only [h, runF, slimC]
  simp [fzP, evS, evE, evEs, evT, evA, evP, callF, lend, back, give, e1, hy, g2, g3, SZ, fdiv_nat]
end Rf

/-! Pu5: the law of near FRACTIONS. -/
namespace Rf
theorem fmod_spec (x y : Int) : x = y * x.fdiv y + x.fmod y := (Int.mul_fdiv_add_fmod x y).symm
theorem fdiv_ge1 {x y : Int} (h0 : 0 < y) (h1 : y ≤ x) : 1 ≤ x.fdiv y := by
  have h2 := fmod_spec x y
  have h3 := Int.fmod_lt_of_pos x h0
  rcases Int.lt_or_le 0 (x.fdiv y) with h | h
  · omega
  · have : y * x.fdiv y ≤ 0 := Int.mul_nonpos_of_nonneg_of_nonpos (by omega) h
    omega
theorem fdiv_le {x y : Int} (h0 : 0 < y) (hx : 0 ≤ x) : x.fdiv y ≤ x := by
  have h2 := fmod_spec x y
  have h3 := Int.fmod_nonneg_of_pos x h0
  rcases Int.lt_or_le (x.fdiv y) 0 with h | h
  · omega
  · have : 1 * x.fdiv y ≤ y * x.fdiv y := Int.mul_le_mul_of_nonneg_right (by omega) h
    omega
theorem parts_pos : ∀ (n : Nat) (x y : Int), 0 ≤ y → y < x → ∀ q ∈ partsF n x y, 1 ≤ q ∧ q ≤ x
  | 0, x, y, _, _, q, hq => by cases hq
  | n + 1, x, y, h0, h1, q, hq => by
    rw [partsF] at hq
    split at hq
    · cases hq
    · rename_i hy
      rcases List.mem_cons.mp hq with rfl | hq
      · exact ⟨fdiv_ge1 (by omega) (by omega), fdiv_le (by omega) (by omega)⟩
      · have := parts_pos n y (x.fmod y) (Int.fmod_nonneg_of_pos x (by omega)) (Int.fmod_lt_of_pos x (by omega)) q hq
        omega
theorem half {x y : Int} (h0 : 0 < y) (h1 : y < x) : 2 * x.fmod y < x := by
  have h2 := fmod_spec x y
  have h3 := Int.fmod_lt_of_pos x h0
  have h4 := fdiv_ge1 h0 (by omega : y ≤ x)
  have h5 : y * 1 ≤ y * x.fdiv y := Int.mul_le_mul_of_nonneg_left h4 (by omega)
  omega
theorem parts_len : ∀ (m n : Nat) (x y : Int), 0 ≤ y → y < 2 ^ m → (partsF n x y).length ≤ 2 * m
  | 0, n, x, y, h0, h1 => by
    have : y = 0 := by simp at h1; omega
    subst this
    cases n with
    | zero => rw [partsF]; exact Nat.le_refl _
    | succ n => rw [partsF, if_pos rfl]; exact Nat.le_refl _
  | m + 1, n, x, y, h0, h1 => by
    cases n with
    | zero => rw [partsF]; exact Nat.zero_le _
    | succ n =>
      rw [partsF]
      split
      · exact Nat.zero_le _
      · rename_i hy
        have a1 := Int.fmod_nonneg_of_pos x (show 0 < y by omega)
        have a2 := Int.fmod_lt_of_pos x (show 0 < y by omega)
        rw [List.length_cons]
        cases n with
        | zero => rw [partsF]; simp only [List.length_nil]; omega
        | succ n =>
          rw [partsF]
          split
          · simp only [List.length_nil]
            omega
          · rename_i hr
            have b1 := Int.fmod_nonneg_of_pos y (show 0 < x.fmod y by omega)
            have b2 := half (x := y) (y := x.fmod y) (by omega) a2
            have b3 : y.fmod (x.fmod y) < 2 ^ m := by
              have : (2 : Int) ^ (m + 1) = 2 ^ m * 2 := Int.pow_succ 2 m
              omega
            have := parts_len m n (x.fmod y) (y.fmod (x.fmod y)) b1 b3
            rw [List.length_cons]
            omega
def sg : Nat → Int
  | 0 => 1
  | k + 1 => - sg k
structure CSt (P Q s : Int) (F : List (Int × Int)) (b0 d0 : Int) (k : Nat) (pq : Int × Int) where
  b : Int
  d : Int
  x : Int
  y : Int
  hP : P = pq.1 * x + b * y
  hQ : Q = pq.2 * x + d * y
  det : pq.1 * d - b * pq.2 = s * sg k
  y0 : 0 ≤ y
  yx : y < x
  c1 : 1 ≤ pq.2
  dn : 0 ≤ d
  last : y = 0 ↔ k + 1 = F.length
  prev : ∀ j, k = j + 1 → F[j]? = some (b, d) ∧ 1 ≤ d
  first : k = 0 → b = b0 ∧ d = d0
theorem parts_nil {n : Nat} {x y : Int} (hn : y.natAbs < n) : partsF n x y = [] ↔ y = 0 := by
  cases n with
  | zero => omega
  | succ n =>
    rw [partsF]
    split <;> simp_all
theorem conv_len : ∀ (xs : List Int) (a b c d : Int), (conv a b c d xs).length = xs.length
  | [], _, _, _, _ => rfl
  | x :: xs, a, b, c, d => by rw [conv, List.length_cons, conv_len xs, List.length_cons]
theorem conv_at (P Q : Int) : ∀ (n : Nat) (x y a b c d s : Int), y.natAbs < n → P = a * x + b * y → Q = c * x + d * y → a * d - b * c = s → 0 ≤ y → y < x → 1 ≤ c → 0 ≤ d →
    ∀ (k : Nat) (pq : Int × Int), ((a, c) :: conv a b c d (partsF n x y))[k]? = some pq → Nonempty (CSt P Q s ((a, c) :: conv a b c d (partsF n x y)) b d k pq)
  | n, x, y, a, b, c, d, s, hn, hP, hQ, hd, h0, h1, hc, hd0, 0, pq, h => by
    cases h
    refine ⟨⟨b, d, x, y, hP, hQ, by rw [sg, Int.mul_one]; exact hd, h0, h1, hc, hd0, ?_, fun j e => by omega, fun _ => ⟨rfl, rfl⟩⟩⟩
    rw [← parts_nil (x := x) hn, List.length_cons, conv_len]
    constructor
    · intro e
      rw [e]
      rfl
    · intro e
      exact List.eq_nil_of_length_eq_zero (by omega)
  | 0, x, y, a, b, c, d, s, hn, _, _, _, _, _, _, _, k + 1, pq, h => by omega
  | n + 1, x, y, a, b, c, d, s, hn, hP, hQ, hd, h0, h1, hc, hd0, k + 1, pq, h => by
    rw [partsF] at h ⊢
    by_cases hy : y = 0
    · rw [if_pos hy, conv] at h
      simp at h
    · rw [if_neg hy, conv] at h ⊢
      rw [List.getElem?_cons_succ] at h
      have e1 := fmod_spec x y
      have e2 := fdiv_ge1 (show 0 < y by omega) (show y ≤ x by omega)
      have a1 := Int.fmod_nonneg_of_pos x (show 0 < y by omega)
      have a2 := Int.fmod_lt_of_pos x (show 0 < y by omega)
      have hcq : c * 1 ≤ c * x.fdiv y := Int.mul_le_mul_of_nonneg_left e2 (by omega)
      obtain ⟨st⟩ := conv_at P Q n y (x.fmod y) (a * x.fdiv y + b) a (c * x.fdiv y + d) c (-s) (by omega)
        (by rw [hP]; conv => lhs; rw [e1]
            rw [Int.mul_add, Int.add_mul, Int.mul_comm y, ← Int.mul_assoc]; omega)
        (by rw [hQ]; conv => lhs; rw [e1]
            rw [Int.mul_add, Int.add_mul, Int.mul_comm y, ← Int.mul_assoc]; omega)
        (by rw [Int.add_mul, Int.mul_add, ← hd, Int.mul_comm (a * x.fdiv y) c, ← Int.mul_assoc, ← Int.mul_assoc, Int.mul_comm c a]
            omega) a1 a2 (by omega) (by omega) k pq h
      refine ⟨⟨st.b, st.d, st.x, st.y, st.hP, st.hQ, by rw [st.det, sg, Int.neg_mul, Int.mul_neg], st.y0, st.yx, st.c1, st.dn, ?_, fun j e => ?_, fun e => by omega⟩⟩
      · rw [st.last]
        simp only [List.length_cons]
        omega
      · have : k = j := by omega
        subst this
        cases k with
        | zero =>
          obtain ⟨f1, f2⟩ := st.first rfl
          rw [f1, f2]
          exact ⟨rfl, hc⟩
        | succ i =>
          obtain ⟨f1, f2⟩ := st.prev i rfl
          exact ⟨by rw [List.getElem?_cons_succ]; exact f1, f2⟩
theorem first_at (P Q : Int) (hQ : 0 < Q) : ∀ (k : Nat) (pq : Int × Int), (conv 1 0 0 1 (partsF (Q.natAbs + 1) P Q))[k]? = some pq → Nonempty (CSt P Q (-1) (conv 1 0 0 1 (partsF (Q.natAbs + 1) P Q)) 1 0 k pq) := by
  rw [partsF, if_neg (by omega), conv]
  have e1 := fmod_spec P Q
  have a1 := Int.fmod_nonneg_of_pos P hQ
  have a2 := Int.fmod_lt_of_pos P hQ
  refine conv_at P Q Q.natAbs Q (P.fmod Q) (1 * P.fdiv Q + 0) 1 (0 * P.fdiv Q + 1) 0 (-1) (by omega) ?_ (by omega) (by omega) a1 a2 (by omega) (Int.le_refl _)
  rw [Int.one_mul, Int.add_zero, Int.one_mul, Int.mul_comm]
  exact e1
theorem parts_facts {P Q : Int} (hQ : 0 < Q) (hQ2 : Q < 2 ^ 20) (hP : P.natAbs ≤ 100000) : partsF (Q.natAbs + 1) P Q ≠ [] ∧ (∀ x ∈ (partsF (Q.natAbs + 1) P Q).tail, 0 < x) ∧ (partsF (Q.natAbs + 1) P Q).length ≤ 40 ∧ (Q ≤ 100000 → ∀ x ∈ partsF (Q.natAbs + 1) P Q, x.natAbs ≤ 1000000) := by
  have a1 := Int.fmod_nonneg_of_pos P hQ
  have a2 := Int.fmod_lt_of_pos P hQ
  have hl := parts_len 20 (Q.natAbs + 1) P Q (by omega) hQ2
  have e : partsF (Q.natAbs + 1) P Q = P.fdiv Q :: partsF Q.natAbs Q (P.fmod Q) := by rw [partsF, if_neg (by omega)]
  have hp := parts_pos Q.natAbs Q (P.fmod Q) a1 a2
  refine ⟨by rw [e]; simp, by rw [e]; exact fun x hx => by have := hp x hx; omega, hl, fun hq x hx => ?_⟩
  rw [e] at hx
  rcases List.mem_cons.mp hx with rfl | hx
  · have e1 := fmod_spec P Q
    have h1 : P.fdiv Q ≤ 200001 := by
      rcases Int.lt_or_le (P.fdiv Q) 0 with h | h
      · omega
      · have : 1 * P.fdiv Q ≤ Q * P.fdiv Q := Int.mul_le_mul_of_nonneg_right (by omega) h
        omega
    have h2 : -200001 ≤ P.fdiv Q := by
      rcases Int.lt_or_le (P.fdiv Q) 0 with h | h
      · have : 1 * (-P.fdiv Q) ≤ Q * (-P.fdiv Q) := Int.mul_le_mul_of_nonneg_right (by omega) (by omega)
        simp only [Int.mul_neg] at this
        omega
      · omega
    omega
  · have := hp x hx
    omega
section
variable {P Q s : Int} {F : List (Int × Int)} {b0 d0 : Int} {k : Nat} {pq : Int × Int}
theorem CSt.side (st : CSt P Q s F b0 d0 k pq) : pq.1 * Q - P * pq.2 = (s * sg k) * st.y := by
  rw [← st.det]
  conv => lhs; rw [st.hQ]
  conv => lhs; arg 2; rw [st.hP]
  rw [Int.mul_add, Int.add_mul, Int.sub_mul]
  have e1 : pq.1 * (pq.2 * st.x) = pq.1 * st.x * pq.2 := by rw [Int.mul_comm pq.2, Int.mul_assoc]
  have e2 : pq.1 * (st.d * st.y) = pq.1 * st.d * st.y := by rw [Int.mul_assoc]
  have e3 : st.b * st.y * pq.2 = st.b * pq.2 * st.y := by rw [Int.mul_assoc, Int.mul_assoc, Int.mul_comm st.y]
  omega
theorem CSt.c_le (st : CSt P Q s F b0 d0 k pq) : pq.2 ≤ Q := by
  have h1 := st.hQ
  have h2 : pq.2 * 1 ≤ pq.2 * st.x := Int.mul_le_mul_of_nonneg_left (by have := st.yx; have := st.y0; omega) (by have := st.c1; omega)
  have h3 : 0 ≤ st.d * st.y := Int.mul_nonneg st.dn st.y0
  omega
theorem CSt.x_le (st : CSt P Q s F b0 d0 k pq) : st.x ≤ Q := by
  have h1 := st.hQ
  have h2 : 1 * st.x ≤ pq.2 * st.x := Int.mul_le_mul_of_nonneg_right st.c1 (by have := st.yx; have := st.y0; omega)
  have h3 : 0 ≤ st.d * st.y := Int.mul_nonneg st.dn st.y0
  omega
theorem sg_sq : ∀ k, sg k = 1 ∨ sg k = -1
  | 0 => .inl rfl
  | k + 1 => by
    rw [sg]
    rcases sg_sq k with h | h <;> rw [h] <;> simp
theorem CSt.abs (st : CSt P Q (-1) F b0 d0 k pq) : ((pq.1 * Q - P * pq.2).natAbs : Int) = st.y := by
  rw [st.side]
  have := st.y0
  rcases sg_sq k with h | h <;> rw [h] <;> omega
/-- no fraction of no greater under is nearer -/
theorem CSt.best (st : CSt P Q (-1) F b0 d0 k pq) (hd : 1 ≤ st.d) (t l : Int) (h1 : 1 ≤ l) (h2 : l ≤ pq.2) (hne : t * pq.2 ≠ pq.1 * l) : st.y * l ≤ ((t * Q - P * l).natAbs : Int) * pq.2 := by
  obtain ⟨e, he, hdet⟩ : ∃ e : Int, (e = 1 ∨ e = -1) ∧ pq.1 * st.d - st.b * pq.2 = e := ⟨-1 * sg k, by rcases sg_sq k with h | h <;> rw [h] <;> simp, st.det⟩
  obtain ⟨a, c⟩ := pq
  obtain ⟨b, d, x, y, hP, hQ, _, y0, yx, c1, _, _, _, _⟩ := st
  have hP : P = a * x + b * y := hP
  have hQ : Q = c * x + d * y := hQ
  have hdet : a * d - b * c = e := hdet
  have h2 : l ≤ c := h2
  have hne : t * c ≠ a * l := hne
  have c1 : 1 ≤ c := c1
  have hd : 1 ≤ d := hd
  show y * l ≤ ((t * Q - P * l).natAbs : Int) * c
  have ee : e * e = 1 := by rcases he with h | h <;> rw [h] <;> rfl
  have hl : (e * (t * d - b * l)) * c + (e * (a * l - t * c)) * d = l := by
    have : (e * (t * d - b * l)) * c + (e * (a * l - t * c)) * d = e * ((a * d - b * c) * l) := by
      rw [Int.mul_assoc, Int.mul_assoc, ← Int.mul_add]
      congr 1
      rw [Int.sub_mul, Int.sub_mul, Int.sub_mul]
      have q1 : t * d * c = t * c * d := by rw [Int.mul_assoc, Int.mul_assoc, Int.mul_comm d]
      have q2 : b * l * c = b * c * l := by rw [Int.mul_assoc, Int.mul_assoc, Int.mul_comm l]
      have q3 : a * l * d = a * d * l := by rw [Int.mul_assoc, Int.mul_assoc, Int.mul_comm l]
      omega
    rw [this, hdet, ← Int.mul_assoc, ee, Int.one_mul]
  have hN : t * Q - P * l = e * ((e * (t * d - b * l)) * y - (e * (a * l - t * c)) * x) := by
    rw [Int.mul_sub, ← Int.mul_assoc, ← Int.mul_assoc, ← Int.mul_assoc, ← Int.mul_assoc, ee, Int.one_mul, Int.one_mul, hP, hQ]
    rw [Int.mul_add, Int.add_mul, Int.sub_mul, Int.sub_mul]
    have q1 : t * (c * x) = t * c * x := by rw [Int.mul_assoc]
    have q2 : t * (d * y) = t * d * y := by rw [Int.mul_assoc]
    have q3 : a * x * l = a * l * x := by rw [Int.mul_assoc, Int.mul_assoc, Int.mul_comm x]
    have q4 : b * y * l = b * l * y := by rw [Int.mul_assoc, Int.mul_assoc, Int.mul_comm y]
    omega
  have hv : e * (a * l - t * c) ≠ 0 := by
    intro z
    rcases he with h | h <;> rw [h] at z <;> omega
  rw [hN]
  generalize e * (t * d - b * l) = u at *
  generalize e * (a * l - t * c) = v at *
  have hab : ((e * (u * y - v * x)).natAbs : Int) = ((u * y - v * x).natAbs : Int) := by
    rcases he with h | h <;> rw [h] <;> omega
  rw [hab]
  have key : x ≤ ((u * y - v * x).natAbs : Int) := by
    rcases Int.lt_or_le 0 v with h | h
    · have g1 : v * 1 ≤ v * d := Int.mul_le_mul_of_nonneg_left hd (by omega)
      have g2 : u ≤ 0 := by
        rcases Int.lt_or_le 0 u with g | g
        · have : 1 * c ≤ u * c := Int.mul_le_mul_of_nonneg_right (by omega) (by omega)
          omega
        · exact g
      have g3 : u * y ≤ 0 := Int.mul_nonpos_of_nonpos_of_nonneg g2 y0
      have g4 : 1 * x ≤ v * x := Int.mul_le_mul_of_nonneg_right (by omega) (by omega)
      omega
    · have g1 : (-v) * 1 ≤ (-v) * d := Int.mul_le_mul_of_nonneg_left hd (by omega)
      rw [Int.neg_mul, Int.neg_mul] at g1
      have g2 : 0 ≤ u := by
        rcases Int.lt_or_le u 0 with g | g
        · have : 1 * c ≤ (-u) * c := Int.mul_le_mul_of_nonneg_right (by omega) (by omega)
          rw [Int.neg_mul] at this
          omega
        · exact g
      have g3 : 0 ≤ u * y := Int.mul_nonneg g2 y0
      have g4 : 1 * x ≤ (-v) * x := Int.mul_le_mul_of_nonneg_right (by omega) (by omega)
      rw [Int.neg_mul] at g4
      omega
  have k1 : y * l ≤ x * l := Int.mul_le_mul_of_nonneg_right (by omega) (by omega)
  have k2 : x * l ≤ x * c := Int.mul_le_mul_of_nonneg_left h2 (by omega)
  have k3 : x * c ≤ ((u * y - v * x).natAbs : Int) * c := Int.mul_le_mul_of_nonneg_right key (by omega)
  omega
end
end Rf

/-! Pu6: _law_same, _law_lists, _law_mixed. -/
namespace Rf
theorem phi_rt {T : Nat → Option Fn} {f : Nat} {c : Fc} {k : Nat} {ss r : List Sl} {s : Sl} {ρ' : Env} (h : T f = some (.py c)) (hl : ss.length = c.np) (he : evSs (Phi T k) c.body ((fzP c.st 0 ss).map some ++ List.replicate (c.nl - c.np) none) = .rt s ρ') (hg : give ρ' c.st 0 (fzP c.st 0 ss) = some r) : Phi T (k + 1) f ss = .ok s r := by
  rw [Phi]
  dsimp only
  rw [h]
  dsimp only
  unfold runF
  rw [if_pos hl]
  dsimp only
  rw [he]
  dsimp only
  rw [hg]
theorem R.stm_of {α : Type} {r : R α} {a : α} {ρ : Env} {f : α → Env → O} (h : r = .ok a ρ) : r.stm f = f a ρ := by rw [h]; rfl
@[simp] theorem cmp_eq_bl (a b : Bool) : cmpD .eq (.bl a) (.bl b) = some (a == b) := by cases a <;> cases b <;> rfl
@[simp] theorem cmp_ne_bl (a b : Bool) : cmpD .ne (.bl a) (.bl b) = some (!(a == b)) := by cases a <;> cases b <;> rfl
@[simp] theorem cmp_eq_str (a b : List Nat) : cmpD .eq (.str a) (.str b) = some (a == b) := rfl
@[simp] theorem cmp_ne_str (a b : List Nat) : cmpD .ne (.str a) (.str b) = some (!(a == b)) := rfl
/-! ### _law_same -/
def sameC (f : Nat) : Fc := ⟨2, 4, [], (.cons (.ite (.tr (.val (.isk .seq (.pk 1)))) (.cons (.ite (.or2 (.cmp .ne (.val (.isk .lst (.pk 0))) (.val (.isk .lst (.pk 1)))) (.cmp .ne (.val (.isk .tup (.pk 0))) (.val (.isk .tup (.pk 1))))) (.cons (.ret (.cst (.bl false))) .nil) .nil) (.cons (.ret (.and2 (.tst (.cmp .eq (.val (.bi .len (.pk 0))) (.val (.bi .len (.pk 1))))) (.bi .all (.val (.lc [2, 3] (.tup [(.nm 2), (.nm 3)]) (.zip (.var 0) (.var 1)) none (.call f (.ref 2 (.ref 3 .nil)) [])))))) .nil)) .nil) (.cons (.ite (.isN (.pk 1)) (.cons (.ret (.tst (.isN (.pk 0)))) .nil) .nil) (.cons (.ite (.tr (.val (.isk .bs (.pk 1)))) (.cons (.ret (.and2 (.tst (.cmp .eq (.val (.isk .bool (.pk 0))) (.val (.isk .bool (.pk 1))))) (.and2 (.tst (.cmp .eq (.val (.isk .str (.pk 0))) (.val (.isk .str (.pk 1))))) (.tst (.cmp .eq (.pk 0) (.pk 1)))))) .nil) .nil) (.cons (.ret (.and2 (.isk .int (.pk 0)) (.and2 (.tst (.not (.tr (.val (.isk .bool (.pk 0)))))) (.tst (.cmp .eq (.pk 0) (.pk 1)))))) .nil))))⟩
theorem zipL_self : ∀ ds : List D, zipL ds ds = ds.map fun d => .tup [d, d]
  | [] => rfl
  | d :: ds => by rw [zipL, zipL_self ds]; rfl
theorem evI_zip {Φ : PhiT} {a b : E} {ρ ρ1 ρ2 : Env} {s s' : Sl} {xs : List D} (h : evE Φ a ρ = .ok s ρ1) (h' : evE Φ b ρ1 = .ok s' ρ2) (h2 : zipD s.d s'.d = some xs) : evIt Φ (.zip a b) ρ = .ok xs ρ2 := by
  rw [evIt, h]
  show (evE Φ b ρ1).bind _ = _
  rw [h']
  show ofO (zipD s.d s'.d) ρ2 = _
  rw [h2]
  rfl
theorem same_step {T : Nat → Option Fn} {f : Nat} (h : T f = some (.py (sameC f))) (k : Nat) (d : D) (ds : List D) (hd : d = .tup ds ∨ d = .lst ds) (hz : ds.length ≤ SZ) (hi : ∀ x ∈ ds, Phi T k f [.v x, .v x] = .ok (.v (.bl true)) [.v x, .v x]) : Phi T (k + 1) f [.v d, .v d] = .ok (.v (.bl true)) [.v d, .v d] := by
  have hzip : zipD d d = some (ds.map fun d => .tup [d, d]) := by rcases hd with rfl | rfl <;> simp [zipD, zipL_self]
  have hseq : isK .seq d = some true := by rcases hd with rfl | rfl <;> rfl
  have hlen : biD .len d = some (.v (.int ds.length)) := by rcases hd with rfl | rfl <;> rfl
  obtain ⟨b1, hb1⟩ : ∃ b, isK .lst d = some b := by rcases hd with rfl | rfl <;> exact ⟨_, rfl⟩
  obtain ⟨b2, hb2⟩ : ∃ b, isK .tup d = some b := by rcases hd with rfl | rfl <;> exact ⟨_, rfl⟩
  have hl : lcL (.tup [.nm 2, .nm 3]) (evOT (Phi T k) none) (evE (Phi T k) (.call f (.ref 2 (.ref 3 .nil)) [])) [2, 3] (ds.map fun d => D.tup [d, d]) [some (.v d), some (.v d), none, none] = .ok ((ds.map fun d => D.tup [d, d]).map fun _ => D.bl true) [some (.v d), some (.v d), none, none] := by
    refine lcL_map fun x hx => ?_
    obtain ⟨y, hy, rfl⟩ := List.mem_map.mp hx
    refine ⟨[some (.v d), some (.v d), some (.v y), some (.v y)], by simp, .v (.bl true), [some (.v d), some (.v d), some (.v y), some (.v y)], ?_, rfl, rfl⟩
    have e1 := hi y hy
    simp [evE, evA, callF, lend, back, e1]
  have hR := lcR_ok (own := [2, 3]) (tg := .tup [.nm 2, .nm 3]) (c := evOT (Phi T k) none) (f := evE (Phi T k) (.call f (.ref 2 (.ref 3 .nil)) [])) (ρ := [some (.v d), some (.v d), none, none]) (by rw [List.length_map]; exact hz) hl
  have hb : biD .all (.lst ((ds.map fun d => D.tup [d, d]).map fun _ => D.bl true)) = some (.v (.bl true)) := by
    show (boolsD _).map _ = _
    rw [boolsD_map]
    simp
  have e2 := ev_bi (evP_val (ev_lc (evI_zip (a := .var 0) (b := .var 1) (Φ := Phi T k) (ρ := [some (.v d), some (.v d), none, none]) (s := .v d) (s' := .v d) (ρ1 := [some (.v d), some (.v d), none, none]) (ρ2 := [some (.v d), some (.v d), none, none]) (by simp [evE]) (by simp [evE]) hzip) hR)) hb
  refine phi_rt h rfl (ρ' := restE (Rf.fzs [some (.v d), some (.v d), none, none] [2, 3]) [some (.v d), some (.v d), none, none] [2, 3]) ?_ rfl
  simp only [sameC, List.length_cons, List.length_nil, if_true, fzP, List.contains_nil, Bool.false_eq_true, if_false, List.map_cons, List.map_nil, Nat.reduceAdd, Nat.reduceSub, List.replicate, List.cons_append, List.nil_append]
  rw [ss_c, evS, R.stm_of (a := true) (ρ := [some (.v d), some (.v d), none, none]) (by simp [evT, evP, evE, hseq]), if_pos rfl, ss_c, evS, R.stm_of (a := false) (ρ := [some (.v d), some (.v d), none, none]) (by simp [evT, evP, evE, hb1, hb2]), if_neg Bool.false_ne_true, ss_n, O.then_nx, ss_c, evS, evE, R.bind_of (a := .v (.bl true)) (ρ := [some (.v d), some (.v d), none, none]) (by simp [evT, evP, evE, hlen]), ]
  dsimp only [Sl.d, tru]
  rw [e2]
  rfl
theorem same_ok {T : Nat → Option Fn} {f : Nat} (h : T f = some (.py (sameC f))) : ∀ (k : Nat) (d : D), sml d = true → dep d < k → Phi T k f [.v d, .v d] = .ok (.v (.bl true)) [.v d, .v d]
  | 0, d, _, hk => absurd hk (Nat.not_lt_zero _)
  | k + 1, d, hs, hk => by
    cases d with
    | tup ds =>
      rw [sml, Bool.and_eq_true, decide_eq_true_eq] at hs
      rw [dep] at hk
      exact same_step h k _ ds (.inl rfl) hs.1 fun x hx => same_ok h k x (smls_mem hs.2 x hx) (by have := dep_mem hx; omega)
    | lst ds =>
      rw [sml, Bool.and_eq_true, decide_eq_true_eq] at hs
      rw [dep] at hk
      exact same_step h k _ ds (.inr rfl) hs.1 fun x hx => same_ok h k x (smls_mem hs.2 x hx) (by have := dep_mem hx; omega)
    | fn _ => cases hs
    | scr _ => cases hs
    | dic _ => cases hs
    | non =>
      rw [Phi]
      simp only [h, runF, sameC]
      simp [fzP, evS, evE, evT, evP, isK, give, isNon]
    | bl b =>
      rw [Phi]
      simp only [h, runF, sameC]
      simp [fzP, evS, evE, evT, evP, isK, give, isNon]
    | int i =>
      rw [Phi]
      simp only [h, runF, sameC]
      simp [fzP, evS, evE, evT, evP, isK, give, isNon]
    | str x =>
      rw [Phi]
      simp only [h, runF, sameC]
      simp [fzP, evS, evE, evT, evP, isK, give, isNon]
/-! ### _law_lists, _law_mixed -/
def listsC (f : Nat) : Fc := ⟨1, 2, [], (.cons (.ret (.ite (.tr (.val (.isk .seq (.pk 0)))) (.lc [1] (.nm 1) (.sq (.var 0)) none (.call f (.ref 1 .nil) [])) (.var 0))) .nil)⟩
theorem lists_int {T : Nat → Option Fn} {f : Nat} (h : T f = some (.py (listsC f))) (k : Nat) (i : Int) : Phi T (k + 1) f [.v (.int i)] = .ok (.v (.int i)) [.v (.int i)] := by
  rw [Phi]
  simp only [h, runF, listsC]
  simp [fzP, evS, evE, evT, evP, isK, give]
theorem lists_ok {T : Nat → Option Fn} {f : Nat} (h : T f = some (.py (listsC f))) (k : Nat) (xs : List Int) (hz : xs.length ≤ SZ) : Phi T (k + 2) f [.v (.tup (xs.map .int))] = .ok (.o (.lst (xs.map .int))) [.v (.tup (xs.map .int))] := by
  have hl : lcL (.nm 1) (evOT (Phi T (k + 1)) none) (evE (Phi T (k + 1)) (.call f (.ref 1 .nil) [])) [1] (xs.map .int) [some (.v (.tup (xs.map .int))), none] = .ok ((xs.map D.int).map id) [some (.v (.tup (xs.map .int))), none] := by
    refine lcL_map fun x hx => ?_
    obtain ⟨y, hy, rfl⟩ := List.mem_map.mp hx
    refine ⟨_, rfl, .v (.int y), [some (.v (.tup (xs.map .int))), some (.v (.int y))], ?_, rfl, rfl⟩
    have e1 := lists_int h k y
    simp [evE, evA, callF, lend, back, e1]
  rw [List.map_id] at hl
  have hR := lcR_ok (own := [1]) (tg := .nm 1) (c := evOT (Phi T (k + 1)) none) (f := evE (Phi T (k + 1)) (.call f (.ref 1 .nil) [])) (ρ := [some (.v (.tup (xs.map .int))), none]) (by rw [List.length_map]; exact hz) hl
  have e2 := ev_lc (evI_sq (e := .var 0) (Φ := Phi T (k + 1)) (ρ := [some (.v (.tup (xs.map .int))), none]) (s := .v (.tup (xs.map .int))) (ρ' := [some (.v (.tup (xs.map .int))), none]) (by simp [evE]) rfl) hR
  refine phi_rt h rfl (ρ' := restE (Rf.fzs [some (.v (.tup (xs.map .int))), none] [1]) [some (.v (.tup (xs.map .int))), none] [1]) ?_ rfl
  simp only [listsC, List.length_cons, List.length_nil, if_true, fzP, List.contains_nil, Bool.false_eq_true, if_false, List.map_cons, List.map_nil, Nat.reduceAdd, Nat.reduceSub, List.replicate, List.cons_append, List.nil_append]
  rw [ss_c, evS, evE, R.bind_of (a := true) (ρ := [some (.v (.tup (xs.map .int))), none]) (by simp [evT, evP, evE, isK]), if_pos rfl, e2]
  rfl
def mixedC (t f : Nat) : Fc := ⟨2, 4, [], (.cons (.ite (.not (.tr (.val (.isk .seq (.pk 1))))) (.cons (.ret (.var 1)) .nil) .nil) (.cons (.asg (.nm 2) (.lc [3] (.nm 3) (.sq (.var 1)) none (.call f (.ref 0 (.ref 3 .nil)) []))) (.cons (.ret (.ite (.cmp .eq (.val (.call t (.ref 0 (.val (.cst (.int 2)) .nil)) [])) (.val (.cst (.int 0)))) (.var 2) (.bi .tuple (.pk 2)))) .nil)))⟩
theorem mixed_int {T : Nat → Option Fn} {t f : Nat} (h : T f = some (.py (mixedC t f))) (k : Nat) (a b c i : Int) : Phi T (k + 1) f [tinL a b c, .v (.int i)] = .ok (.v (.int i)) [tinL a b c, .v (.int i)] := by
  rw [Phi]
  simp only [h, runF, mixedC]
  simp [fzP, evS, evE, evT, evP, isK, give, tinL]
theorem mixed_ok {T : Nat → Option Fn} {t f : Nat} (h : T f = some (.py (mixedC t f))) (ht : T t = some (.py takeC)) (k : Nat) (a b c : Int) (xs : List Int) (hz : xs.length ≤ SZ) (hc : 0 ≤ c) (hc2 : c < 1000000000) :
    ∃ s a' b' c', Phi T (k + 2) f [tinL a b c, .v (.tup (xs.map .int))] = .ok s [tinL a' b' c', .v (.tup (xs.map .int))] ∧ (s.d = .tup (xs.map .int) ∨ s.d = .lst (xs.map .int)) ∧ c ≤ c' ∧ c' ≤ c + 1 := by
  obtain ⟨r, a', b', c', et, _, _, h3, h4⟩ := take_ok ht k a b c 2 (by decide) (by decide) hc hc2
  have hl : lcL (.nm 3) (evOT (Phi T (k + 1)) none) (evE (Phi T (k + 1)) (.call f (.ref 0 (.ref 3 .nil)) [])) [3] (xs.map .int) [some (tinL a b c), some (.v (.tup (xs.map .int))), none, none] = .ok ((xs.map D.int).map id) [some (tinL a b c), some (.v (.tup (xs.map .int))), none, none] := by
    refine lcL_map fun x hx => ?_
    obtain ⟨y, hy, rfl⟩ := List.mem_map.mp hx
    refine ⟨_, rfl, .v (.int y), [some (tinL a b c), some (.v (.tup (xs.map .int))), none, some (.v (.int y))], ?_, rfl, rfl⟩
    have e1 := mixed_int h k a b c y
    unfold tinL at e1 ⊢
    simp [evE, evA, callF, lend, back, e1]
  rw [List.map_id] at hl
  have hR := lcR_ok (own := [3]) (tg := .nm 3) (c := evOT (Phi T (k + 1)) none) (f := evE (Phi T (k + 1)) (.call f (.ref 0 (.ref 3 .nil)) [])) (ρ := [some (tinL a b c), some (.v (.tup (xs.map .int))), none, none]) (by rw [List.length_map]; exact hz) hl
  have e2 := ev_lc (evI_sq (e := .var 1) (Φ := Phi T (k + 1)) (ρ := [some (tinL a b c), some (.v (.tup (xs.map .int))), none, none]) (s := .v (.tup (xs.map .int))) (ρ' := [some (tinL a b c), some (.v (.tup (xs.map .int))), none, none]) (by simp [evE]) rfl) hR
  have e3 : restE (Rf.fzs [some (tinL a b c), some (.v (.tup (xs.map .int))), none, none] [3]) [some (tinL a b c), some (.v (.tup (xs.map .int))), none, none] [3] = [some (tinL a b c), some (.v (.tup (xs.map .int))), none, none] := rfl
  rw [e3] at e2
  have e4 : ∃ s ρ', evE (Phi T (k + 1)) (.ite (.cmp .eq (.val (.call t (.ref 0 (.val (.cst (.int 2)) .nil)) [])) (.val (.cst (.int 0)))) (.var 2) (.bi .tuple (.pk 2))) [some (tinL a b c), some (.v (.tup (xs.map .int))), some (.o (.lst (xs.map .int))), none] = .ok s (some (tinL a' b' c') :: some (.v (.tup (xs.map .int))) :: ρ') ∧ (s.d = .tup (xs.map .int) ∨ s.d = .lst (xs.map .int)) := by
    unfold tinL at et ⊢
    by_cases hr : r = 0
    · subst hr
      refine ⟨.v (.lst (xs.map .int)), [some (.v (.lst (xs.map .int))), none], ?_, .inr rfl⟩
      simp [evE, evT, evP, evA, callF, lend, back, et]
    · refine ⟨.v (.tup (xs.map .int)), [some (.o (.lst (xs.map .int))), none], ?_, .inl rfl⟩
      simp [evE, evT, evP, evA, callF, lend, back, et, hr]
  obtain ⟨s, ρ', e5, hs⟩ := e4
  refine ⟨s, a', b', c', phi_rt h rfl (ρ' := some (tinL a' b' c') :: some (.v (.tup (xs.map .int))) :: ρ') ?_ rfl, hs, h3, h4⟩
  simp only [mixedC, List.length_cons, List.length_nil, if_true, fzP, List.contains_nil, Bool.false_eq_true, if_false, List.map_cons, List.map_nil, Nat.reduceAdd, Nat.reduceSub, List.replicate, List.cons_append, List.nil_append]
  rw [ss_c, evS, R.stm_of (a := false) (ρ := [some (tinL a b c), some (.v (.tup (xs.map .int))), none, none]) (by simp [evT, evP, evE, isK]), if_neg Bool.false_ne_true, ss_n, O.then_nx, ss_c, evS, e2, R.stm_ok]
  show ((O.nx [some (tinL a b c), some (.v (.tup (xs.map .int))), some (.o (.lst (xs.map .int))), none]).andThen _) = _
  rw [O.then_nx, ss_c, evS, e5]
  rfl
end Rf

/-! Pg: helpers of all laws: kinds, mixed things, _law_of. -/
namespace Rf
mutual
theorem sml_pln : ∀ {d : D}, sml d = true → pln d = true
  | .tup ds, h => by
    rw [sml, Bool.and_eq_true] at h
    rw [pln]
    exact smls_plns h.2
  | .lst ds, h => by
    rw [sml, Bool.and_eq_true] at h
    rw [pln]
    exact smls_plns h.2
  | .non, _ => rfl
  | .bl _, _ => rfl
  | .int _, _ => rfl
  | .str _, _ => rfl
  | .fn _, h => by cases h
  | .scr _, h => by cases h
  | .dic _, h => by cases h
theorem smls_plns : ∀ {ds : List D}, smls ds = true → plns ds = true
  | [], _ => rfl
  | d :: ds, h => by
    rw [smls, Bool.and_eq_true] at h
    rw [plns, sml_pln h.1, smls_plns h.2]
    rfl
end
theorem sml_len {ds : List D} (h : sml (.tup ds) = true) : ds.length ≤ SZ := by
  rw [sml, Bool.and_eq_true, decide_eq_true_eq] at h
  exact h.1
/-- the helpers that every law on tuples of numbers has -/
structure Plain (T : Nat → Option Fn) : Prop where
  h22 : T 22 = some (.py numC)
  h23 : T 23 = some (.py longC)
  h24 : T 24 = some (.py (numsC 22))
def longB (n : Nat) : D → Bool
  | .tup ds => decide (ds.length = n)
  | _ => false
def numsB : D → Bool
  | .tup ds => ds.all isNum
  | _ => false
theorem long_ok2 {T : Nat → Option Fn} (H : Plain T) (k : Nat) (d : D) (n : Nat) (hd : sml d = true) : Phi T (k + 1) 23 [.v d, .v (.int n)] = .ok (.v (.bl (longB n d))) [.v d, .v (.int n)] := by
  rw [long_ok H.h23 k d n (sml_kin hd)]
  congr 4
  cases d with
  | tup ds => simp only [longB]; exact decide_eq_decide.mpr (by omega)
  | _ => rfl
theorem nums_ok2 {T : Nat → Option Fn} (H : Plain T) (k : Nat) (d : D) (hd : sml d = true) : Phi T (k + 2) 24 [.v d] = .ok (.v (.bl (numsB d))) [.v d] := by
  rw [nums_ok H.h24 H.h22 k d (sml_pln hd) (fun ds e => sml_len (e ▸ hd))]
  cases d <;> rfl
mutual
def cnt : D → Nat
  | .tup ds => cnts ds + 1
  | .lst ds => cnts ds + 1
  | _ => 0
def cnts : List D → Nat
  | [] => 0
  | d :: ds => cnt d + cnts ds
end
theorem mixed_lc {T : Nat → Option Fn} (k : Nat) (d0 : D) : ∀ (ds : List D) (x y z : Int), 0 ≤ z → z + cnts ds < 1000000000 →
    (∀ d ∈ ds, ∀ x y z : Int, 0 ≤ z → z + cnt d < 1000000000 → ∃ s x' y' z', Phi T k 13 [tinL x y z, .v d] = .ok s [tinL x' y' z', .v d] ∧ tupD s.d = tupD d ∧ sml s.d = true ∧ dep s.d = dep d ∧ z ≤ z' ∧ z' ≤ z + cnt d) →
    ∃ es x' y' z', lcL (.nm 3) (evOT (Phi T k) none) (evE (Phi T k) (.call 13 (.ref 0 (.ref 3 .nil)) [])) [3] ds [some (tinL x y z), some (.v d0), none, none] = .ok es [some (tinL x' y' z'), some (.v d0), none, none] ∧ tupDs es = tupDs ds ∧ smls es = true ∧ deps es = deps ds ∧ es.length = ds.length ∧ z ≤ z' ∧ z' ≤ z + cnts ds
  | [], x, y, z, h0, h1, _ => ⟨[], x, y, z, rfl, rfl, rfl, rfl, rfl, by omega, by omega⟩
  | d :: ds, x, y, z, h0, h1, H => by
    rw [cnts] at h1
    obtain ⟨s, x1, y1, z1, e1, p1, p2, p3, p4, p5⟩ := H d (List.mem_cons_self ..) x y z h0 (by omega)
    obtain ⟨es, x2, y2, z2, e2, q1, q2, q3, q4, q5, q6⟩ := mixed_lc k d0 ds x1 y1 z1 (by omega) (by omega) fun d' h' => H d' (List.mem_cons_of_mem _ h')
    refine ⟨s.d :: es, x2, y2, z2, ?_, by rw [tupDs, tupDs, p1, q1], by rw [smls, p2, q2]; rfl, by rw [deps, deps, p3, q3], by rw [List.length_cons, List.length_cons, q4], by omega, by rw [cnts]; omega⟩
    have e3 : evE (Phi T k) (.call 13 (.ref 0 (.ref 3 .nil)) []) [some (tinL x y z), some (.v d0), none, some (.v d)] = .ok s [some (tinL x1 y1 z1), some (.v d0), none, some (.v d)] := by
      unfold tinL at e1 ⊢
      simp [evE, evA, callF, lend, back, e1]
    rw [lcL]
    show (R.ok true _).bind _ = _
    rw [R.bind_ok]
    show (if true = true then (evE (Phi T k) (.call 13 (.ref 0 (.ref 3 .nil)) []) [some (tinL x y z), some (.v d0), none, some (.v d)]).bind _ else _) = _
    rw [if_pos rfl, e3, R.bind_ok]
    show (lcL _ _ _ [3] ds [some (tinL x1 y1 z1), some (.v d0), none, none]).bind _ = _
    rw [e2]
    rfl
theorem mixed_step {T : Nat → Option Fn} (h13 : T 13 = some (.py (mixedC 10 13))) (h10 : T 10 = some (.py takeC)) (k : Nat) (d : D) (ds : List D) (hd : d = .tup ds ∨ d = .lst ds) (hz : ds.length ≤ SZ) (x y z : Int) (h0 : 0 ≤ z) (h1 : z + cnts ds + 1 < 1000000000)
    (H : ∀ d ∈ ds, ∀ x y z : Int, 0 ≤ z → z + cnt d < 1000000000 → ∃ s x' y' z', Phi T (k + 1) 13 [tinL x y z, .v d] = .ok s [tinL x' y' z', .v d] ∧ tupD s.d = tupD d ∧ sml s.d = true ∧ dep s.d = dep d ∧ z ≤ z' ∧ z' ≤ z + cnt d) :
    ∃ s x' y' z', Phi T (k + 2) 13 [tinL x y z, .v d] = .ok s [tinL x' y' z', .v d] ∧ tupD s.d = .tup (tupDs ds) ∧ sml s.d = true ∧ dep s.d = deps ds + 1 ∧ z ≤ z' ∧ z' ≤ z + cnts ds + 1 := by
  have hitm : itm d = some ds := by rcases hd with rfl | rfl <;> rfl
  have hseq : isK .seq d = some true := by rcases hd with rfl | rfl <;> rfl
  obtain ⟨es, x1, y1, z1, hl, q1, q2, q3, q4, q5, q6⟩ := mixed_lc (k + 1) d ds x y z h0 (by omega) H
  obtain ⟨r, x', y', z', et, _, _, h3, h4⟩ := take_ok h10 k x1 y1 z1 2 (by decide) (by decide) (by omega) (by omega)
  have hR := lcR_ok (own := [3]) (tg := .nm 3) (c := evOT (Phi T (k + 1)) none) (f := evE (Phi T (k + 1)) (.call 13 (.ref 0 (.ref 3 .nil)) [])) (ρ := [some (tinL x y z), some (.v d), none, none]) hz hl
  have e2 := ev_lc (evI_sq (e := .var 1) (Φ := Phi T (k + 1)) (ρ := [some (tinL x y z), some (.v d), none, none]) (s := .v d) (ρ' := [some (tinL x y z), some (.v d), none, none]) (by simp [evE]) hitm) hR
  have e3 : restE (Rf.fzs [some (tinL x y z), some (.v d), none, none] [3]) [some (tinL x1 y1 z1), some (.v d), none, none] [3] = [some (tinL x1 y1 z1), some (.v d), none, none] := rfl
  rw [e3] at e2
  have e4 : ∃ s ρ', evE (Phi T (k + 1)) (.ite (.cmp .eq (.val (.call 10 (.ref 0 (.val (.cst (.int 2)) .nil)) [])) (.val (.cst (.int 0)))) (.var 2) (.bi .tuple (.pk 2))) [some (tinL x1 y1 z1), some (.v d), some (.o (.lst es)), none] = .ok s (some (tinL x' y' z') :: some (.v d) :: ρ') ∧ (s.d = .tup es ∨ s.d = .lst es) := by
    unfold tinL at et ⊢
    by_cases hr : r = 0
    · subst hr
      refine ⟨.v (.lst es), [some (.v (.lst es)), none], ?_, .inr rfl⟩
      simp [evE, evT, evP, evA, callF, lend, back, et]
    · refine ⟨.v (.tup es), [some (.o (.lst es)), none], ?_, .inl rfl⟩
      simp [evE, evT, evP, evA, callF, lend, back, et, hr]
  obtain ⟨s, ρ', e5, hs⟩ := e4
  have hes : es.length ≤ SZ := by omega
  refine ⟨s, x', y', z', phi_rt h13 rfl (ρ' := some (tinL x' y' z') :: some (.v d) :: ρ') ?_ rfl, by rcases hs with e | e <;> rw [e, tupD, q1], by rcases hs with e | e <;> rw [e, sml, q2, decide_eq_true hes] <;> rfl, by rcases hs with e | e <;> rw [e, dep, q3], by omega, by omega⟩
  show evSs (Phi T (k + 1)) (mixedC 10 13).body [some (tinL x y z), some (.v d), none, none] = _
  simp only [mixedC]
  rw [ss_c, evS, R.stm_of (a := false) (ρ := [some (tinL x y z), some (.v d), none, none]) (by simp [evT, evP, evE, hseq]), if_neg Bool.false_ne_true, ss_n, O.then_nx, ss_c, evS, e2, R.stm_ok]
  show ((O.nx [some (tinL x1 y1 z1), some (.v d), some (.o (.lst es)), none]).andThen _) = _
  rw [O.then_nx, ss_c, evS, e5]
  rfl
theorem mixed_gen {T : Nat → Option Fn} (h13 : T 13 = some (.py (mixedC 10 13))) (h10 : T 10 = some (.py takeC)) : ∀ (k : Nat) (d : D) (x y z : Int), sml d = true → dep d ≤ k → 0 ≤ z → z + cnt d < 1000000000 →
    ∃ s x' y' z', Phi T (k + 2) 13 [tinL x y z, .v d] = .ok s [tinL x' y' z', .v d] ∧ tupD s.d = tupD d ∧ sml s.d = true ∧ dep s.d = dep d ∧ z ≤ z' ∧ z' ≤ z + cnt d := by
  have other : ∀ (k : Nat) (d : D) (x y z : Int), sml d = true → isK .seq d = some false → ∃ s x' y' z', Phi T (k + 1) 13 [tinL x y z, .v d] = .ok s [tinL x' y' z', .v d] ∧ tupD s.d = tupD d ∧ sml s.d = true ∧ dep s.d = dep d ∧ z ≤ z' ∧ z' ≤ z + cnt d := fun k d x y z h1 h2 => by
    refine ⟨.v d, x, y, z, ?_, rfl, h1, rfl, by omega, by omega⟩
    rw [Phi]
    simp only [h13, runF, mixedC]
    simp [fzP, evS, evE, evT, evP, h2, give, tinL]
  intro k
  induction k with
  | zero =>
    intro d x y z h1 h2 h3 h4
    cases d with
    | tup ds => rw [dep] at h2; omega
    | lst ds => rw [dep] at h2; omega
    | fn _ => cases h1
    | scr _ => cases h1
    | dic _ => cases h1
    | non => exact other 1 _ x y z h1 rfl
    | bl _ => exact other 1 _ x y z h1 rfl
    | int _ => exact other 1 _ x y z h1 rfl
    | str _ => exact other 1 _ x y z h1 rfl
  | succ k ih =>
    intro d x y z h1 h2 h3 h4
    cases d with
    | tup ds =>
      rw [dep] at h2
      rw [cnt] at h4 ⊢
      rw [sml, Bool.and_eq_true, decide_eq_true_eq] at h1
      have := mixed_step h13 h10 (k + 1) (.tup ds) ds (.inl rfl) h1.1 x y z h3 (by omega) fun d hd x y z g1 g2 => ih d x y z (smls_mem h1.2 d hd) (by have := dep_mem hd; omega) g1 g2
      rw [tupD, dep]
      obtain ⟨s, x', y', z', a1, a2, a3, a4, a5, a6⟩ := this
      exact ⟨s, x', y', z', a1, a2, a3, a4, a5, by omega⟩
    | lst ds =>
      rw [dep] at h2
      rw [cnt] at h4 ⊢
      rw [sml, Bool.and_eq_true, decide_eq_true_eq] at h1
      have := mixed_step h13 h10 (k + 1) (.lst ds) ds (.inr rfl) h1.1 x y z h3 (by omega) fun d hd x y z g1 g2 => ih d x y z (smls_mem h1.2 d hd) (by have := dep_mem hd; omega) g1 g2
      rw [tupD, dep]
      obtain ⟨s, x', y', z', a1, a2, a3, a4, a5, a6⟩ := this
      exact ⟨s, x', y', z', a1, a2, a3, a4, a5, by omega⟩
    | fn _ => cases h1
    | scr _ => cases h1
    | dic _ => cases h1
    | non => exact other (k + 2) _ x y z h1 rfl
    | bl _ => exact other (k + 2) _ x y z h1 rfl
    | int _ => exact other (k + 2) _ x y z h1 rfl
    | str _ => exact other (k + 2) _ x y z h1 rfl
theorem same_o {T : Nat → Option Fn} {f : Nat} (h : T f = some (.py (sameC f))) (k : Nat) (ds : List D) (hs : smls ds = true) (hz : ds.length ≤ SZ) (hk : deps ds < k) : Phi T (k + 1) f [.o (.lst ds), .v (.lst ds)] = .ok (.v (.bl true)) [.v (.lst ds), .v (.lst ds)] := by
  have hl : lcL (.tup [.nm 2, .nm 3]) (evOT (Phi T k) none) (evE (Phi T k) (.call f (.ref 2 (.ref 3 .nil)) [])) [2, 3] (ds.map fun d => D.tup [d, d]) [some (.v (.lst ds)), some (.v (.lst ds)), none, none] = .ok ((ds.map fun d => D.tup [d, d]).map fun _ => D.bl true) [some (.v (.lst ds)), some (.v (.lst ds)), none, none] := by
    refine lcL_map fun x hx => ?_
    obtain ⟨y, hy, rfl⟩ := List.mem_map.mp hx
    refine ⟨[some (.v (.lst ds)), some (.v (.lst ds)), some (.v y), some (.v y)], by simp, .v (.bl true), [some (.v (.lst ds)), some (.v (.lst ds)), some (.v y), some (.v y)], ?_, rfl, rfl⟩
    have e1 := same_ok h k y (smls_mem hs y hy) (by have := dep_mem hy; omega)
    simp [evE, evA, callF, lend, back, e1]
  have hR := lcR_ok (own := [2, 3]) (tg := .tup [.nm 2, .nm 3]) (c := evOT (Phi T k) none) (f := evE (Phi T k) (.call f (.ref 2 (.ref 3 .nil)) [])) (ρ := [some (.v (.lst ds)), some (.v (.lst ds)), none, none]) (by rw [List.length_map]; exact hz) hl
  have hb : biD .all (.lst ((ds.map fun d => D.tup [d, d]).map fun _ => D.bl true)) = some (.v (.bl true)) := by
    show (boolsD _).map _ = _
    rw [boolsD_map]
    simp
  have e2 := ev_bi (evP_val (ev_lc (evI_zip (a := .var 0) (b := .var 1) (Φ := Phi T k) (ρ := [some (.o (.lst ds)), some (.v (.lst ds)), none, none]) (s := .v (.lst ds)) (s' := .v (.lst ds)) (ρ1 := [some (.v (.lst ds)), some (.v (.lst ds)), none, none]) (ρ2 := [some (.v (.lst ds)), some (.v (.lst ds)), none, none]) (by simp [evE]) (by simp [evE]) (by simp [zipD, zipL_self])) hR)) hb
  refine phi_rt h rfl (ρ' := restE (Rf.fzs [some (.v (.lst ds)), some (.v (.lst ds)), none, none] [2, 3]) [some (.v (.lst ds)), some (.v (.lst ds)), none, none] [2, 3]) ?_ rfl
  simp only [sameC, List.length_cons, List.length_nil, if_true, fzP, List.contains_nil, Bool.false_eq_true, if_false, List.map_cons, List.map_nil, Nat.reduceAdd, Nat.reduceSub, List.replicate, List.cons_append, List.nil_append]
  rw [ss_c, evS, R.stm_of (a := true) (ρ := [some (.o (.lst ds)), some (.v (.lst ds)), none, none]) (by simp [evT, evP, evE, isK]), if_pos rfl, ss_c, evS, R.stm_of (a := false) (ρ := [some (.o (.lst ds)), some (.v (.lst ds)), none, none]) (by simp [evT, evP, evE, isK]), if_neg Bool.false_ne_true, ss_n, O.then_nx, ss_c, evS, evE, R.bind_of (a := .v (.bl true)) (ρ := [some (.o (.lst ds)), some (.v (.lst ds)), none, none]) (by simp [evT, evP, evE]), ]
  dsimp only [Sl.d, tru]
  rw [e2]
  rfl
def ofC (t : Nat) : Fc := ⟨2, 2, [], (.cons (.ret (.ix (.pk 1) (.val (.call t (.ref 0 (.val (.bi .len (.pk 1)) .nil)) [])))) .nil)⟩
theorem of_ok {T : Nat → Option Fn} {f t : Nat} (h : T f = some (.py (ofC t))) (ht : T t = some (.py takeC)) (k : Nat) (a b c : Int) (ds : List D) (h0 : 0 < ds.length) (hl : ds.length < 1000000) (hc : 0 ≤ c) (hc2 : c < 1000000000) :
    ∃ (a' b' c' : Int) (d : D), Phi T (k + 2) f [tinL a b c, .v (.lst ds)] = .ok (.v d) [tinL a' b' c', .v (.lst ds)] ∧ d ∈ ds ∧ c ≤ c' ∧ c' ≤ c + 1 := by
  obtain ⟨r, a', b', c', e, p1, p2, p3, p4⟩ := take_ok ht k a b c (ds.length : Int) (by omega) (by omega) hc hc2
  obtain ⟨r, rfl⟩ := Int.eq_ofNat_of_zero_le p1
  have hr : r < ds.length := by omega
  refine ⟨a', b', c', ds[r], ?_, List.getElem_mem hr, p3, p4⟩
  have e2 : atI ds (r : Int) = some ds[r] := by rw [at_nat, List.getElem?_eq_getElem hr]
  rw [Phi]
  simp only [h, runF, ofC]
  unfold tinL at *
  simp [fzP, evS, evE, evEs, evT, evA, evP, callF, lend, back, give, e, e2]
end Rf

/-! Pv0: the evaluator for simp; draws; what all laws share. -/
namespace Rf
class Hf (T : Nat → Option Fn) (f : Nat) (c : Fc) : Prop where out : T f = some (.py c)
theorem phi_c {T : Nat → Option Fn} {f : Nat} (c : Fc) [H : Hf T f c] (k : Nat) (ss : List Sl) : Phi T (k + 1) f ss = runF (Phi T k) c ss := by
  rw [Phi]
  simp only [H.out]
theorem hf (f : Nat) (c : Fc) {T : Nat → Option Fn} [H : Hf T f c] : T f = some (.py c) := H.out
theorem suc_of {n k : Nat} (h : n + 1 ≤ k) : ∃ j, k = j + 1 ∧ n ≤ j := ⟨k - 1, by omega, by omega⟩
theorem ge_of {P : Nat → Prop} {n : Nat} (h : ∀ j, P (j + n)) (k : Nat) (hk : n ≤ k) : P k := by
  have := h (k - n)
  rwa [Nat.sub_add_cancel hk] at this
/-! ### the evaluator, case by case -/
def trC (d : D) (a b : R Sl) : R Sl :=
  match tru d with
  | some true => a
  | some false => b
  | none => .bad
@[simp] theorem trC_t (x y : R Sl) : trC (.bl true) x y = x := rfl
@[simp] theorem trC_f (x y : R Sl) : trC (.bl false) x y = y := rfl
@[simp] theorem trC_and (b c : Bool) (ρ : Env) : trC (.bl b) (R.ok (.v (.bl c)) ρ) (R.ok (.v (.bl b)) ρ) = R.ok (.v (.bl (b && c))) ρ := by cases b <;> rfl
@[simp] theorem trC_or (b c : Bool) (ρ : Env) : trC (.bl b) (R.ok (.v (.bl b)) ρ) (R.ok (.v (.bl c)) ρ) = R.ok (.v (.bl (b || c))) ρ := by cases b <;> rfl
@[simp] theorem trC_lst (ds : List D) (x y : R Sl) : trC (.lst ds) x y = if ds = [] then y else x := by cases ds <;> rfl
@[simp] theorem trC_tup (ds : List D) (x y : R Sl) : trC (.tup ds) x y = if ds = [] then y else x := by cases ds <;> rfl
@[simp] theorem qevE_and2 {Φ : PhiT} {a} {b} {ρ : Env} : evE Φ (.and2 a b) ρ = (evE Φ a ρ).bind fun x ρ => trC x.d (evE Φ b ρ) (.ok x ρ) := by rw [evE]; rfl
@[simp] theorem qevE_or2 {Φ : PhiT} {a} {b} {ρ : Env} : evE Φ (.or2 a b) ρ = (evE Φ a ρ).bind fun x ρ => trC x.d (.ok x ρ) (evE Φ b ρ) := by rw [evE]; rfl
@[simp] theorem ite_okf (p : Prop) [Decidable p] (c : Bool) (ρ : Env) : (if p then R.ok (Sl.v (.bl c)) ρ else R.ok (Sl.v (.bl false)) ρ) = R.ok (Sl.v (.bl (decide p && c))) ρ := by by_cases h : p <;> simp [h]
@[simp] theorem ite_okt (p : Prop) [Decidable p] (c : Bool) (ρ : Env) : (if p then R.ok (Sl.v (.bl true)) ρ else R.ok (Sl.v (.bl c)) ρ) = R.ok (Sl.v (.bl (decide p || c))) ρ := by by_cases h : p <;> simp [h]
@[simp] theorem ite_tf (p : Prop) [Decidable p] (c : Bool) (ρ : Env) : (if p then R.ok c ρ else R.ok false ρ) = R.ok (decide p && c) ρ := by by_cases h : p <;> simp [h]
@[simp] theorem ite_tt (p : Prop) [Decidable p] (c : Bool) (ρ : Env) : (if p then R.ok true ρ else R.ok c ρ) = R.ok (decide p || c) ρ := by by_cases h : p <;> simp [h]
@[simp] theorem noEx_ok {α : Type} (a : α) (ρ : Env) : noEx (R.ok a ρ) = R.ok a ρ := rfl
theorem le_SZ {n : Nat} (h : n ≤ 1000000) : n ≤ SZ := Nat.le_trans h (by decide)
@[simp] theorem qevE_var {Φ : PhiT} {i} {ρ : Env} : evE Φ (.var i) ρ = (match gt ρ i with
    | some s => .ok (.v s.d) (fz ρ i)
    | none => .bad) := by rw [evE] <;> rfl
@[simp] theorem qevE_mv {Φ : PhiT} {i} {ρ : Env} : evE Φ (.mv i) ρ = (match gt ρ i with
    | some (.v d) => .ok (.v d) ρ
    | some (.o d) => .ok (.o d) (ρ.set i none)
    | none => .bad) := by rw [evE] <;> rfl
@[simp] theorem qevE_cst {Φ : PhiT} {d} {ρ : Env} : evE Φ (.cst d) ρ = .ok (.v d) ρ := by rw [evE]
@[simp] theorem qevE_bin {Φ : PhiT} {op} {a} {b} {ρ : Env} : evE Φ (.bin op a b) ρ = (evP Φ a ρ).bind fun x ρ => (evP Φ b ρ).bind fun y ρ => ofO ((rs ρ x).bind fun x => (rs ρ y).bind fun y => binD op x y) ρ := by rw [evE]
@[simp] theorem qevE_neg {Φ : PhiT} {a} {ρ : Env} : evE Φ (.neg a) ρ = (evE Φ a ρ).bind fun x ρ => ofO ((intO x.d).map fun i => .v (.int (-i))) ρ := by rw [evE]
@[simp] theorem qevE_tst {Φ : PhiT} {t} {ρ : Env} : evE Φ (.tst t) ρ = (evT Φ t ρ).bind fun b ρ => .ok (.v (.bl b)) ρ := by rw [evE]
@[simp] theorem qevE_ite {Φ : PhiT} {t} {a} {b} {ρ : Env} : evE Φ (.ite t a b) ρ = (evT Φ t ρ).bind fun c ρ => if c then evE Φ a ρ else evE Φ b ρ := by rw [evE]
@[simp] theorem qevE_call {Φ : PhiT} {f} {as} {dfl} {ρ : Env} : evE Φ (.call f as dfl) ρ = (evA Φ as ρ).bind fun xs ρ => callF Φ f (xs ++ dfl.map fun i => .inr (.int i)) ρ := by rw [evE]
@[simp] theorem qevE_callv {Φ : PhiT} {i} {as} {ρ : Env} : evE Φ (.callv i as) ρ = (match gt ρ i with
    | some (.v (.fn f)) => (evA Φ as ρ).bind fun xs ρ => callF Φ f xs ρ
    | _ => .bad) := by rw [evE] <;> rfl
@[simp] theorem qevE_bi {Φ : PhiT} {b} {a} {ρ : Env} : evE Φ (.bi b a) ρ = (evP Φ a ρ).bind fun x ρ => ofO ((rs ρ x).bind fun x => biD b x) ρ := by rw [evE]
@[simp] theorem qevE_bi2 {Φ : PhiT} {b} {x} {y} {ρ : Env} : evE Φ (.bi2 b x y) ρ = (evP Φ x ρ).bind fun x ρ => (evP Φ y ρ).bind fun y ρ => ofO ((rs ρ x).bind fun x => (rs ρ y).bind fun y => bi2D b x y) ρ := by rw [evE]
@[simp] theorem qevE_met {Φ : PhiT} {b} {x} {y} {ρ : Env} : evE Φ (.met b x y) ρ = ((evP Φ x ρ).bind fun x ρ =>
    match (rs ρ x).bind (rcv b) with
    | some T => (evP Φ y ρ).bind fun y ρ => ofO ((rs ρ x).bind fun x => (rs ρ y).bind fun y => metD b T x y) ρ
    | none => .bad) := by rw [evE] <;> rfl
@[simp] theorem qevE_isk {Φ : PhiT} {k} {a} {ρ : Env} : evE Φ (.isk k a) ρ = (evP Φ a ρ).bind fun x ρ => ofO ((rs ρ x).bind fun x => (isK k x).map fun b => .v (.bl b)) ρ := by rw [evE]
@[simp] theorem qevE_ix {Φ : PhiT} {a} {b} {ρ : Env} : evE Φ (.ix a b) ρ = (evP Φ a ρ).bind fun x ρ => (evP Φ b ρ).bind fun y ρ => ofO ((rs ρ x).bind fun x => (rs ρ y).bind fun y => (ixD x y).map .v) ρ := by rw [evE]
@[simp] theorem qevE_slc {Φ : PhiT} {a} {lo} {hi} {ρ : Env} : evE Φ (.slc a lo hi) ρ = (evP Φ a ρ).bind fun x ρ => (evOI Φ lo ρ).bind fun l ρ => (evOI Φ hi ρ).bind fun h ρ => ofO ((rs ρ x).bind fun x => slD x l h) ρ := by rw [evE]
@[simp] theorem qevE_rvs {Φ : PhiT} {a} {lo} {ρ : Env} : evE Φ (.rvs a lo) ρ = (evP Φ a ρ).bind fun x ρ => (evOI Φ lo ρ).bind fun l ρ => ofO ((rs ρ x).bind fun x => rvD x l) ρ := by rw [evE]
@[simp] theorem qevE_tup {Φ : PhiT} {es} {ρ : Env} : evE Φ (.tup es) ρ = (evEs Φ es ρ).bind fun ds ρ => if ds.length ≤ SZ then .ok (.v (.tup ds)) ρ else .bad := by rw [evE]
@[simp] theorem qevE_lst {Φ : PhiT} {es} {ρ : Env} : evE Φ (.lst es) ρ = (evEs Φ es ρ).bind fun ds ρ => if ds.length ≤ SZ then .ok (.o (.lst ds)) ρ else .bad := by rw [evE]
@[simp] theorem qevE_app {Φ : PhiT} {i} {e} {ρ : Env} : evE Φ (.app i e) ρ = (match gt ρ i with
    | some (.o (.lst _)) => (evE Φ e ρ).bind fun x ρ => appS i x.d ρ
    | _ => .bad) := by rw [evE] <;> rfl
@[simp] theorem qevE_ext {Φ : PhiT} {i} {e} {ρ : Env} : evE Φ (.ext i e) ρ = (match gt ρ i with
    | some (.o (.lst _)) => (evE Φ e ρ).bind fun x ρ => extS i x.d ρ
    | _ => .bad) := by rw [evE] <;> rfl
@[simp] theorem qevE_pop {Φ : PhiT} {i} {ρ : Env} : evE Φ (.pop i) ρ = popS i ρ := by rw [evE]
@[simp] theorem qevE_bi3 {Φ : PhiT} {b} {x} {y} {z} {ρ : Env} : evE Φ (.bi3 b x y z) ρ = (evP Φ x ρ).bind fun x ρ => (evP Φ y ρ).bind fun y ρ => (evP Φ z ρ).bind fun z ρ => ofO ((rs ρ x).bind fun x => (rs ρ y).bind fun y => (rs ρ z).bind fun z => bi3D b x y z) ρ := by rw [evE]
@[simp] theorem qevE_lc {Φ : PhiT} {own} {tg} {it} {c} {e} {ρ : Env} : evE Φ (.lc own tg it c e) ρ = (evIt Φ it ρ).bind fun xs ρ => lcR own tg (evOT Φ c) (evE Φ e) xs ρ := by rw [evE]
@[simp] theorem qevE_lc2 {Φ : PhiT} {own} {vs1} {tg} {it} {c} {tg1} {it1} {c1} {e} {ρ : Env} : evE Φ (.lc2 own vs1 tg it c tg1 it1 c1 e) ρ = (evIt Φ it ρ).bind fun xs ρ => lcR2 own vs1 tg (evOT Φ c) (evIt Φ it1) tg1 (evOT Φ c1) (evE Φ e) xs ρ := by rw [evE]
@[simp] theorem qevEs_nil {Φ : PhiT}  {ρ : Env} : evEs Φ (.nil) ρ = .ok [] ρ := by rw [evEs]
@[simp] theorem qevEs_cons {Φ : PhiT} {e} {es} {ρ : Env} : evEs Φ (.cons e es) ρ = (evE Φ e ρ).bind fun x ρ => (evEs Φ es ρ).bind fun ds ρ => .ok (x.d :: ds) ρ := by rw [evEs]
@[simp] theorem qevSl_nil {Φ : PhiT}  {ρ : Env} : evSl Φ (.nil) ρ = .ok [] ρ := by rw [evSl]
@[simp] theorem qevSl_cons {Φ : PhiT} {e} {es} {ρ : Env} : evSl Φ (.cons e es) ρ = (evE Φ e ρ).bind fun x ρ => (evSl Φ es ρ).bind fun ds ρ => .ok (x :: ds) ρ := by rw [evSl]
@[simp] theorem qevA_nil {Φ : PhiT}  {ρ : Env} : evA Φ (.nil) ρ = .ok [] ρ := by rw [evA]
@[simp] theorem qevA_ref {Φ : PhiT} {i} {as} {ρ : Env} : evA Φ (.ref i as) ρ = if (gt ρ i).isSome then (evA Φ as ρ).bind fun xs ρ => .ok (.inl i :: xs) ρ else .bad := by rw [evA]
@[simp] theorem qevA_val {Φ : PhiT} {e} {as} {ρ : Env} : evA Φ (.val e as) ρ = (evE Φ e ρ).bind fun x ρ => (evA Φ as ρ).bind fun xs ρ => .ok (.inr x.d :: xs) ρ := by rw [evA]
@[simp] theorem qevOI_none {Φ : PhiT}  {ρ : Env} : evOI Φ (none) ρ = .ok none ρ := by rw [evOI]
@[simp] theorem qevOI_some {Φ : PhiT} {e} {ρ : Env} : evOI Φ (some e) ρ = (evE Φ e ρ).bind fun x ρ => ofO ((intO x.d).map some) ρ := by rw [evOI]
@[simp] theorem qevP_pk {Φ : PhiT} {i} {ρ : Env} : evP Φ (.pk i) ρ = if (gt ρ i).isSome then .ok (.inl i) ρ else .bad := by rw [evP]
@[simp] theorem qevP_val {Φ : PhiT} {e} {ρ : Env} : evP Φ (.val e) ρ = (evE Φ e ρ).bind fun x ρ => .ok (.inr x.d) ρ := by rw [evP]
@[simp] theorem qevT_cmp {Φ : PhiT} {op} {a} {b} {ρ : Env} : evT Φ (.cmp op a b) ρ = (evP Φ a ρ).bind fun x ρ => (evP Φ b ρ).bind fun y ρ => ofO ((rs ρ x).bind fun x => (rs ρ y).bind fun y => cmpD op x y) ρ := by rw [evT]
@[simp] theorem qevT_isN {Φ : PhiT} {a} {ρ : Env} : evT Φ (.isN a) ρ = (evP Φ a ρ).bind fun x ρ => ofO ((rs ρ x).map isNon) ρ := by rw [evT]
@[simp] theorem qevT_and2 {Φ : PhiT} {a} {b} {ρ : Env} : evT Φ (.and2 a b) ρ = (evT Φ a ρ).bind fun c ρ => if c then evT Φ b ρ else .ok false ρ := by rw [evT]
@[simp] theorem qevT_or2 {Φ : PhiT} {a} {b} {ρ : Env} : evT Φ (.or2 a b) ρ = (evT Φ a ρ).bind fun c ρ => if c then .ok true ρ else evT Φ b ρ := by rw [evT]
@[simp] theorem qevT_not {Φ : PhiT} {a} {ρ : Env} : evT Φ (.not a) ρ = (evT Φ a ρ).bind fun c ρ => .ok (!c) ρ := by rw [evT]
@[simp] theorem qevT_tr {Φ : PhiT} {e} {ρ : Env} : evT Φ (.tr e) ρ = (evP Φ e ρ).bind fun x ρ => ofO ((rs ρ x).bind tru) ρ := by rw [evT]
@[simp] theorem qevT_ite {Φ : PhiT} {t} {a} {b} {ρ : Env} : evT Φ (.ite t a b) ρ = (evT Φ t ρ).bind fun c ρ => if c then evT Φ a ρ else evT Φ b ρ := by rw [evT]
@[simp] theorem qevT_chain {Φ : PhiT} {op} {op2} {a} {b} {c} {ρ : Env} : evT Φ (.chain op op2 a b c) ρ = ((evP Φ a ρ).bind fun x ρ => (evP Φ b ρ).bind fun y ρ => (ofO ((rs ρ x).bind fun x => (rs ρ y).bind fun y => cmpD op x y) ρ).bind fun k ρ =>
    if k then (evP Φ c ρ).bind fun z ρ => ofO ((rs ρ y).bind fun y => (rs ρ z).bind fun z => cmpD op2 y z) ρ else .ok false ρ) := by rw [evT]
@[simp] theorem qevOT_none {Φ : PhiT}  {ρ : Env} : evOT Φ (none) ρ = .ok true ρ := by rw [evOT]
@[simp] theorem qevOT_some {Φ : PhiT} {t} {ρ : Env} : evOT Φ (some t) ρ = evT Φ t ρ := by rw [evOT]
@[simp] theorem qevIt_sq {Φ : PhiT} {e} {ρ : Env} : evIt Φ (.sq e) ρ = (evE Φ e ρ).bind fun x ρ => ofO (itm x.d) ρ := by rw [evIt]
@[simp] theorem qevIt_rng1 {Φ : PhiT} {b} {ρ : Env} : evIt Φ (.rng1 b) ρ = (evE Φ b ρ).bind fun y ρ => ofO (rngOf (.int 0) y.d) ρ := by rw [evIt]
@[simp] theorem qevIt_rng {Φ : PhiT} {a} {b} {ρ : Env} : evIt Φ (.rng a b) ρ = (evE Φ a ρ).bind fun x ρ => (evE Φ b ρ).bind fun y ρ => ofO (rngOf x.d y.d) ρ := by rw [evIt]
@[simp] theorem qevIt_rng3 {Φ : PhiT} {a} {b} {c} {ρ : Env} : evIt Φ (.rng3 a b c) ρ = (evE Φ a ρ).bind fun x ρ => (evE Φ b ρ).bind fun y ρ => (evE Φ c ρ).bind fun z ρ => ofO (rngOf3 x.d y.d z.d) ρ := by rw [evIt]
@[simp] theorem qevIt_enum {Φ : PhiT} {e} {ρ : Env} : evIt Φ (.enum e) ρ = (evE Φ e ρ).bind fun x ρ => ofO (enumD x.d) ρ := by rw [evIt]
@[simp] theorem qevIt_zip {Φ : PhiT} {a} {b} {ρ : Env} : evIt Φ (.zip a b) ρ = (evE Φ a ρ).bind fun x ρ => (evE Φ b ρ).bind fun y ρ => ofO (zipD x.d y.d) ρ := by rw [evIt]
@[simp] theorem qevIt_rev {Φ : PhiT} {e} {ρ : Env} : evIt Φ (.rev e) ρ = (evE Φ e ρ).bind fun x ρ => ofO (revD x.d) ρ := by rw [evIt]
@[simp] theorem qevS_asg {Φ : PhiT} {tg} {e} {ρ : Env} : evS Φ (.asg tg e) ρ = (evE Φ e ρ).stm fun s ρ => ofOE (asg tg s ρ) := by rw [evS]
@[simp] theorem qevS_par {Φ : PhiT} {is} {es} {ρ : Env} : evS Φ (.par is es) ρ = (evSl Φ es ρ).stm fun ds ρ => parS is ds ρ := by rw [evS]
@[simp] theorem qevS_stx {Φ : PhiT} {i} {x} {e} {ρ : Env} : evS Φ (.stx i x e) ρ = (evE Φ e ρ).stm fun d ρ => if (gt ρ i).isSome then (evE Φ x ρ).stm fun k ρ => ofOE (stxS i k.d d.d ρ) else .bad := by rw [evS]
@[simp] theorem qevS_aug {Φ : PhiT} {i} {x} {e} {ρ : Env} : evS Φ (.aug i x e) ρ = if (gt ρ i).isSome then (evE Φ x ρ).stm fun k ρ => (ofO ((rs ρ (.inl i)).bind fun l => augR l k.d) ρ).stm fun a ρ => (evE Φ e ρ).stm fun d ρ => ofOE ((intO d.d).bind fun b => stxS i k.d (.int (a + b)) ρ) else .bad := by rw [evS]
@[simp] theorem qevS_ex {Φ : PhiT} {e} {ρ : Env} : evS Φ (.ex e) ρ = (evE Φ e ρ).stm fun _ ρ => .nx ρ := by rw [evS]
@[simp] theorem qevS_ret {Φ : PhiT} {e} {ρ : Env} : evS Φ (.ret e) ρ = (evE Φ e ρ).stm fun s ρ => .rt s ρ := by rw [evS]
@[simp] theorem qevS_retn {Φ : PhiT}  {ρ : Env} : evS Φ (.retn) ρ = .rt (.v .non) ρ := by rw [evS]
@[simp] theorem qevS_ite {Φ : PhiT} {t} {a} {b} {ρ : Env} : evS Φ (.ite t a b) ρ = (evT Φ t ρ).stm fun c ρ => if c then evSs Φ a ρ else evSs Φ b ρ := by rw [evS]
@[simp] theorem qevS_fr {Φ : PhiT} {tg} {it} {b} {ρ : Env} : evS Φ (.fr tg it b) ρ = (evIt Φ it ρ).stm fun xs ρ => forL tg (evSs Φ b) xs ρ := by rw [evS]
@[simp] theorem qevS_whl {Φ : PhiT} {t} {b} {ρ : Env} : evS Φ (.whl t b) ρ = whL (evT Φ t) (evSs Φ b) FUEL ρ := by rw [evS]
@[simp] theorem qevS_brk {Φ : PhiT}  {ρ : Env} : evS Φ (.brk) ρ = .bk ρ := by rw [evS]
@[simp] theorem qevS_cont {Φ : PhiT}  {ρ : Env} : evS Φ (.cont) ρ = .ct ρ := by rw [evS]
@[simp] theorem qevS_pass {Φ : PhiT}  {ρ : Env} : evS Φ (.pass) ρ = .nx ρ := by rw [evS]
@[simp] theorem qevS_raise {Φ : PhiT} {c} {ρ : Env} : evS Φ (.raise c) ρ = .ex ⟨c, none⟩ ρ := by rw [evS]
@[simp] theorem qevS_tr {Φ : PhiT} {b} {hs} {ρ : Env} : evS Φ (.tr b hs) ρ = trO hs (evSs Φ b ρ) := by rw [evS]
@[simp] theorem callF_eq {Φ : PhiT} {f : Nat} {xs : List (Nat ⊕ D)} {ρ : Env} : callF Φ f xs ρ = (match lend xs ρ with
    | none => .bad
    | some (ss, ρ1) =>
      match Φ f ss with
      | .ok s ss' => .ok s (back xs ss ss' ρ1)
      | .ex x ss' => .ex x (back xs ss ss' ρ1)
      | .bad => .bad) := rfl
@[simp] theorem lend_nil (ρ : Env) : lend [] ρ = some ([], ρ) := rfl
@[simp] theorem lend_r (d : D) (r : List (Nat ⊕ D)) (ρ : Env) : lend (.inr d :: r) ρ = (lend r ρ).map fun p => (.v d :: p.1, p.2) := rfl
@[simp] theorem lend_l (i : Nat) (r : List (Nat ⊕ D)) (ρ : Env) : lend (.inl i :: r) ρ = (match gt ρ i with
    | some (.v d) => (lend r ρ).map fun p => (.v d :: p.1, p.2)
    | some (.o d) => (lend r (ρ.set i none)).map fun p => (.o d :: p.1, p.2)
    | none => none) := rfl
@[simp] theorem back_nil (ss ss' : List Sl) (ρ : Env) : back [] ss ss' ρ = ρ := by cases ss <;> cases ss' <;> rfl
@[simp] theorem back_lo (i : Nat) (r : List (Nat ⊕ D)) (d : D) (ss : List Sl) (s' : Sl) (ss' : List Sl) (ρ : Env) : back (.inl i :: r) (.o d :: ss) (s' :: ss') ρ = back r ss ss' (ρ.set i (some s')) := rfl
@[simp] theorem back_lv (i : Nat) (r : List (Nat ⊕ D)) (d : D) (ss : List Sl) (s' : Sl) (ss' : List Sl) (ρ : Env) : back (.inl i :: r) (.v d :: ss) (s' :: ss') ρ = back r ss ss' ρ := rfl
@[simp] theorem back_r (d : D) (r : List (Nat ⊕ D)) (s : Sl) (ss : List Sl) (s' : Sl) (ss' : List Sl) (ρ : Env) : back (.inr d :: r) (s :: ss) (s' :: ss') ρ = back r ss ss' ρ := by cases s <;> rfl
@[simp] theorem fzP_nil (st : List Nat) (i : Nat) : fzP st i [] = [] := rfl
@[simp] theorem fzP_cons (st : List Nat) (i : Nat) (s : Sl) (ss : List Sl) : fzP st i (s :: ss) = (if st.contains i then .v s.d else s) :: fzP st (i + 1) ss := rfl
@[simp] theorem give_nil (ρ : Env) (st : List Nat) (i : Nat) : give ρ st i [] = some [] := rfl
@[simp] theorem give_v (ρ : Env) (st : List Nat) (i : Nat) (d : D) (ss : List Sl) : give ρ st i (.v d :: ss) = (give ρ st (i + 1) ss).map fun r => .v d :: r := rfl
@[simp] theorem give_o (ρ : Env) (st : List Nat) (i : Nat) (d : D) (ss : List Sl) : give ρ st i (.o d :: ss) = (match gt ρ i with
    | some s => (give ρ st (i + 1) ss).map fun r => s :: r
    | none => none) := rfl
@[simp] theorem wipeE_nil (ρ : Env) : wipeE ρ [] = ρ := rfl
@[simp] theorem wipeE_cons (ρ : Env) (v : Nat) (vs : List Nat) : wipeE ρ (v :: vs) = (wipeE ρ vs).set v none := rfl
@[simp] theorem fzs_nil (ρ : Env) : Rf.fzs ρ [] = ρ := rfl
@[simp] theorem fzs_cons (ρ : Env) (v : Nat) (vs : List Nat) : Rf.fzs ρ (v :: vs) = fz (Rf.fzs ρ vs) v := rfl
@[simp] theorem restE_nil (o ρ : Env) : restE o ρ [] = ρ := rfl
@[simp] theorem restE_cons (o ρ : Env) (v : Nat) (vs : List Nat) : restE o ρ (v :: vs) = (restE o ρ vs).set v (o[v]?.getD none) := rfl
@[simp] theorem parS_nil (ρ : Env) : parS [] [] ρ = .nx ρ := rfl
@[simp] theorem parS_cons (i : Nat) (is : List Nat) (d : Sl) (ds : List Sl) (ρ : Env) : parS (i :: is) (d :: ds) ρ = parS is ds (ρ.set i (some d)) := rfl
@[simp] theorem unp_tup (ds : List D) : unp (.tup ds) = some ds := rfl
@[simp] theorem unp_lst (ds : List D) : unp (.lst ds) = some ds := rfl
@[simp] theorem asg_tup' (ts : List Tg) (s : Sl) (ρ : Env) : asg (.tup ts) s ρ = (unp s.d).bind fun ds => asgs ts ds ρ := rfl
@[simp] theorem itm_tup (ds : List D) : itm (.tup ds) = some ds := rfl
@[simp] theorem itm_lst (ds : List D) : itm (.lst ds) = some ds := rfl
@[simp] theorem itm_str (s : List Nat) : itm (.str s) = some (s.map fun c => .str [c]) := rfl
@[simp] theorem isNon_non : isNon .non = true := rfl
@[simp] theorem isNon_int (i : Int) : isNon (.int i) = false := rfl
@[simp] theorem isNon_str (i : List Nat) : isNon (.str i) = false := rfl
@[simp] theorem isNon_tup (i : List D) : isNon (.tup i) = false := rfl
@[simp] theorem isNon_lst (i : List D) : isNon (.lst i) = false := rfl
@[simp] theorem isK_int (k : Kd) (i : Int) : isK k (.int i) = some (match k with | .int => true | _ => false) := rfl
@[simp] theorem isK_bl (k : Kd) (i : Bool) : isK k (.bl i) = some (match k with | .int => true | .bool => true | .bs => true | _ => false) := rfl
@[simp] theorem isK_str (k : Kd) (i : List Nat) : isK k (.str i) = some (match k with | .str => true | .bs => true | _ => false) := rfl
@[simp] theorem isK_tup (k : Kd) (i : List D) : isK k (.tup i) = some (match k with | .tup => true | .seq => true | _ => false) := rfl
@[simp] theorem isK_lst (k : Kd) (i : List D) : isK k (.lst i) = some (match k with | .lst => true | .seq => true | _ => false) := rfl
@[simp] theorem isK_non (k : Kd) : isK k .non = some false := rfl
@[simp] theorem ss1 {Φ : PhiT} {s : S} {ss : Ss} {ρ : Env} : evSs Φ (.cons s ss) ρ = (evS Φ s ρ).andThen fun ρ => evSs Φ ss ρ := ss_c Φ ρ s ss
@[simp] theorem slD_tup (ds : List D) (l h : Option Int) : slD (.tup ds) l h = some (.v (.tup (cut ds l h))) := rfl
@[simp] theorem slD_lst (ds : List D) (l h : Option Int) : slD (.lst ds) l h = some (.o (.lst (cut ds l h))) := rfl
theorem slD_str {s : List Nat} (hs : s.length ≤ SZ) (l h : Option Int) : slD (.str s) l h = some (.v (.str (cut s l h))) := if_pos hs
theorem rvD_str {s : List Nat} (hs : s.length ≤ SZ) : rvD (.str s) none = some (.v (.str s.reverse)) := by
  show (if s.length ≤ SZ then some (Sl.v (.str (rvL s none))) else none) = _
  rw [if_pos hs]
  simp [rvL, sRx]
theorem rvD_tup {s : List D} : rvD (.tup s) none = some (.v (.tup s.reverse)) := by
  show some (Sl.v (.tup (rvL s none))) = _
  simp [rvL, sRx]
theorem len_str {s : List Nat} (hs : s.length ≤ SZ) : biD .len (.str s) = some (.v (.int s.length)) := if_pos hs
theorem ss_step {Φ : PhiT} {s : S} {ss : Ss} {ρ ρ' : Env} {o : O} (h : evS Φ s ρ = .nx ρ') (h2 : evSs Φ ss ρ' = o) : evSs Φ (.cons s ss) ρ = o := by
  rw [ss_c, h, O.then_nx, h2]
theorem ss_end {Φ : PhiT} {s : S} {ss : Ss} {ρ ρ' : Env} {d : Sl} (h : evS Φ s ρ = .rt d ρ') : evSs Φ (.cons s ss) ρ = .rt d ρ' := by
  rw [ss_c, h, O.then_rt]
/-- a def whose state alone is changed -/
theorem run_rt {T : Nat → Option Fn} {f : Nat} {k : Nat} {c : Fc} {ss r : List Sl} {s : Sl} {ρ' : Env} (c' : Fc) (hc : c = c') [H : Hf T f c] (hl : ss.length = c'.np) (he : evSs (Phi T k) c'.body ((fzP c'.st 0 ss).map some ++ List.replicate (c'.nl - c'.np) none) = .rt s ρ') (hg : give ρ' c'.st 0 (fzP c'.st 0 ss) = some r) : Phi T (k + 1) f ss = .ok s r := by
  subst hc
  exact phi_rt H.out hl he hg
/-- a def of the state alone that answers True -/
def Ends (o : O) (t : D) : Prop := ∃ ρ', o = .rt (.v (.bl true)) ρ' ∧ gt ρ' 0 = some (.o t)
theorem en_step {Φ : PhiT} {s : S} {ss : Ss} {ρ ρ' : Env} {t : D} (h : evS Φ s ρ = .nx ρ') (h2 : Ends (evSs Φ ss ρ') t) : Ends (evSs Φ (.cons s ss) ρ) t := by
  rw [ss_c, h, O.then_nx]
  exact h2
theorem en_end {Φ : PhiT} {s : S} {ss : Ss} {ρ ρ' : Env} {t : D} (h : evS Φ s ρ = .rt (.v (.bl true)) ρ') (h2 : gt ρ' 0 = some (.o t)) : Ends (evSs Φ (.cons s ss) ρ) t := by
  rw [ss_c, h, O.then_rt]
  exact ⟨_, rfl, h2⟩
theorem run_ends {T : Nat → Option Fn} {f : Nat} {k : Nat} {c : Fc} {t t' : D} (c' : Fc) (hc : c = c') [H : Hf T f c] (hl : c'.np = 1) (hs : c'.st = []) (he : Ends (evSs (Phi T k) c'.body (some (.o t) :: List.replicate (c'.nl - 1) none)) t') : Phi T (k + 1) f [.o t] = .ok (.v (.bl true)) [.o t'] := by
  subst hc
  obtain ⟨ρ', h1, h2⟩ := he
  refine phi_rt H.out (by rw [hl]; rfl) (ρ' := ρ') ?_ ?_
  · rw [hs, hl]
    exact h1
  · rw [hs]
    simp [h2]
mutual
theorem peq_refl : ∀ d : D, pln d = true → peq d d = true
  | .non, _ => rfl
  | .bl b, _ => by simp [peq]
  | .int i, _ => by simp [peq]
  | .str s, _ => by simp [peq]
  | .tup ds, h => by rw [peq]; exact peqs_refl ds h
  | .lst ds, h => by rw [peq]; exact peqs_refl ds h
  | .fn _, h => by cases h
  | .scr _, h => by cases h
  | .dic _, h => by cases h
theorem peqs_refl : ∀ ds : List D, plns ds = true → peqs ds ds = true
  | [], _ => rfl
  | d :: ds, h => by
    rw [plns, Bool.and_eq_true] at h
    rw [peqs, peq_refl d h.1, peqs_refl ds h.2]
    rfl
end
theorem cmp_eq_self {d : D} (h : pln d = true) (h2 : dep d ≤ 60) : cmpD .eq d d = some true := by
  have h3 : eqOk d d = true := by unfold eqOk; rw [h, decide_eq_true (by omega)]; rfl
  show (if eqOk d d then some (peq d d) else none) = _
  rw [if_pos h3, peq_refl d h]
theorem cmp_ne_self {d : D} (h : pln d = true) (h2 : dep d ≤ 60) : cmpD .ne d d = some false := by
  have h3 : eqOk d d = true := by unfold eqOk; rw [h, decide_eq_true (by omega)]; rfl
  show (if eqOk d d then some (!peq d d) else none) = _
  rw [if_pos h3, peq_refl d h]
  rfl
theorem cmp_ne_22 (a b c d : Int) : cmpD .ne (.tup [.int a, .int b]) (.tup [.int c, .int d]) = some (!(decide (a = c) && decide (b = d))) := by
  have h : eqOk (.tup [.int a, .int b]) (.tup [.int c, .int d]) = true := rfl
  show (if eqOk (.tup [.int a, .int b]) (.tup [.int c, .int d]) then some (!peq (.tup [.int a, .int b]) (.tup [.int c, .int d])) else none) = _
  rw [if_pos h]
  simp [peq, peqs, Bool.beq_eq_decide_eq]
theorem cmp_eq_22 (a b c d : Int) : cmpD .eq (.tup [.int a, .int b]) (.tup [.int c, .int d]) = some (decide (a = c) && decide (b = d)) := by
  have h : eqOk (.tup [.int a, .int b]) (.tup [.int c, .int d]) = true := rfl
  show (if eqOk (.tup [.int a, .int b]) (.tup [.int c, .int d]) then some (peq (.tup [.int a, .int b]) (.tup [.int c, .int d])) else none) = _
  rw [if_pos h]
  simp [peq, peqs, Bool.beq_eq_decide_eq]
theorem big255 {n : Nat} (h : n < 1000000) : n < 2 ^ 255 := Nat.lt_of_lt_of_le (show n < 2 ^ 20 by omega) (Nat.pow_le_pow_right (by decide) (by decide))
theorem big4000 {n : Nat} (h : n < 1000000) : n < 2 ^ 4000 := Nat.lt_of_lt_of_le (show n < 2 ^ 20 by omega) (Nat.pow_le_pow_right (by decide) (by decide))
/-! ### sorted texts -/
theorem plt_str (x y : List Nat) : plt (.str x) (.str y) = decide (x < y) := rfl
theorem insD_head (x : List Nat) (m : List Nat) (ys : List D) : ∃ h t, insD (.str x) (.str m :: ys) = .str h :: t ∧ (h = x ∧ ¬ m < x ∨ h = m ∧ m < x) := by
  rw [insD, plt_str]
  by_cases hc : m < x
  · exact ⟨m, insD (.str x) ys, by simp [hc], .inr ⟨rfl, hc⟩⟩
  · exact ⟨x, .str m :: ys, by simp [hc], .inl ⟨rfl, hc⟩⟩
theorem srt_head : ∀ (l : List (List Nat)), l ≠ [] → ∃ h t, srt (l.map D.str) = .str h :: t ∧ h ∈ l ∧ ∀ y ∈ l, ¬ y < h
  | [], h => absurd rfl h
  | [x], _ => ⟨x, [], rfl, List.mem_cons_self .., fun y hy => by
    rcases List.mem_cons.mp hy with rfl | hy
    · exact List.lt_irrefl _
    · cases hy⟩
  | x :: x2 :: l, _ => by
    obtain ⟨m, t, e, hm, hall⟩ := srt_head (x2 :: l) (by simp)
    rw [List.map_cons, srt, e]
    obtain ⟨h, t', e', hc⟩ := insD_head x m t
    refine ⟨h, t', e', ?_, ?_⟩
    · rcases hc with ⟨rfl, _⟩ | ⟨rfl, _⟩
      · exact List.mem_cons_self ..
      · exact List.mem_cons_of_mem _ hm
    · intro y hy
      rcases hc with ⟨rfl, hc⟩ | ⟨rfl, hc⟩
      · rcases List.mem_cons.mp hy with rfl | hy
        · exact List.lt_irrefl _
        · intro hlt
          have h1 := hall y hy
          exact absurd hlt (List.not_lt.mpr (List.le_trans (List.not_lt.mp hc) (List.not_lt.mp h1)))
      · rcases List.mem_cons.mp hy with rfl | hy
        · exact List.lt_asymm hc
        · exact hall y hy
theorem alk_strs (l l' : List (List Nat)) : ((l.map D.str).all fun a => (l'.map D.str).all fun b => alk a b) = true := by
  simp [List.all_eq_true, alk]
theorem plns_strs : ∀ l : List (List Nat), plns (l.map D.str) = true
  | [] => rfl
  | x :: l => by rw [List.map_cons, plns, plns_strs l]; rfl
theorem deps_strs : ∀ l : List (List Nat), deps (l.map D.str) = 0
  | [] => rfl
  | x :: l => by rw [List.map_cons, deps, deps_strs l]; rfl
theorem sorted_strs {l : List (List Nat)} (h0 : l ≠ []) (hl : l.length ≤ SZ) : biD .sorted (.lst (l.map D.str)) = some (.o (.lst (srt (l.map D.str)))) := by
  have h1 : intsD (l.map D.str) = none := by
    cases l with
    | nil => exact absurd rfl h0
    | cons x l => rfl
  have h2 : srtOk (l.map D.str) = true := by
    unfold srtOk allAlk
    rw [alk_strs, plns_strs, deps_strs, List.length_map, decide_eq_true hl]
    simp
  show (match intsD (l.map D.str) with | some ns => some (Sl.o (.lst ((isort ns).map .int))) | none => if srtOk (l.map D.str) then some (Sl.o (.lst (srt (l.map D.str)))) else none) = _
  rw [h1]
  dsimp only
  rw [if_pos h2]
/-- the first of sorted texts -/
theorem srt_first {l : List (List Nat)} {w : List Nat} (hw : w ∈ l) (h : ∀ y ∈ l, ¬ y < w) : ∃ t, srt (l.map D.str) = .str w :: t := by
  obtain ⟨m, t, e, hm, hall⟩ := srt_head l (List.ne_nil_of_mem hw)
  have h1 := h m hm
  have h2 := hall w hw
  have : m = w := List.le_antisymm (List.not_lt.mp h2) (List.not_lt.mp h1)
  subst this
  exact ⟨t, e⟩
/-! ### slices -/
theorem cut_from {α : Type} (xs : List α) (n : Nat) : cut xs (some (n : Int)) none = xs.drop n := by
  unfold cut
  rw [sIx_nat]
  show (xs.drop (min n xs.length)).take (xs.length - min n xs.length) = _
  rw [List.take_of_length_le (by rw [List.length_drop]; omega)]
  by_cases h : n ≤ xs.length
  · rw [Nat.min_eq_left h]
  · rw [Nat.min_eq_right (by omega), List.drop_of_length_le (Nat.le_refl _), List.drop_of_length_le (by omega)]
theorem cut_to {α : Type} (xs : List α) (n : Nat) : cut xs none (some (n : Int)) = xs.take n := by
  rw [cut_head]
  by_cases h : n ≤ xs.length
  · rw [Nat.min_eq_left h]
  · rw [Nat.min_eq_right (by omega), List.take_of_length_le (Nat.le_refl _), List.take_of_length_le (by omega)]
theorem cut_inner {α : Type} (xs : List α) : cut xs (some 1) (some (-1)) = (xs.drop 1).take (xs.length - 2) := by
  unfold cut
  have e1 : sIx xs.length 0 (some 1) = min 1 xs.length := sIx_nat xs.length 0 1
  have e2 : sIx xs.length xs.length (some (-1)) = xs.length - 1 := by
    show (if (-1 : Int) < 0 then ((-1 : Int) + (xs.length : Int)).toNat else min (-1 : Int).toNat xs.length) = _
    rw [if_pos (by decide)]
    omega
  rw [e1, e2]
  rcases xs with _ | ⟨x, xs⟩
  · rfl
  · rw [Nat.min_eq_left (by simp)]
    rfl
/-! ### draws -/
def Tn (z : Nat) (t : D) : Prop := ∃ a b c : Int, t = .lst [.int a, .int b, .int c] ∧ 0 ≤ c ∧ c ≤ z
theorem Tn.up {z z' : Nat} {t : D} (h : Tn z t) (hz : z ≤ z') : Tn z' t := by
  obtain ⟨a, b, c, h1, h2, h3⟩ := h
  exact ⟨a, b, c, h1, h2, by omega⟩
def c10 : Fc := ⟨2, 6, [], (.cons (.ite (.cmp .gt (.val (.ix (.pk 0) (.val (.cst (.int 0))))) (.val (.cst (.int 0)))) (.cons (.asg (.nm 5) (.bin .mod (.val (.bi .int (.val (.ix (.pk 0) (.val (.cst (.int 0))))))) (.pk 1))) (.cons (.stx 0 (.cst (.int 0)) (.bin .fdiv (.val (.ix (.pk 0) (.val (.cst (.int 0))))) (.pk 1))) (.cons (.ret (.mv 5)) .nil))) .nil) (.cons (.stx 0 (.cst (.int 2)) (.bin .add (.val (.ix (.pk 0) (.val (.cst (.int 2))))) (.val (.cst (.int 1))))) (.cons (.asg (.nm 2) (.bin .mod (.val (.bi .int (.val (.bin .mul (.val (.bin .add (.val (.ix (.pk 0) (.val (.cst (.int 1))))) (.val (.bin .mul (.val (.cst (.int 48271))) (.val (.ix (.pk 0) (.val (.cst (.int 2))))))))) (.val (.bin .add (.val (.cst (.int 39373))) (.val (.ix (.pk 0) (.val (.cst (.int 2))))))))))) (.val (.cst (.int 2147483647))))) (.cons (.asg (.nm 3) (.bin .add (.val (.bin .mod (.val (.bi .int (.pk 2))) (.val (.cst (.int 40009))))) (.val (.cst (.int 7))))) (.cons (.asg (.nm 4) (.bin .mod (.val (.bi .int (.val (.bin .mul (.val (.bin .add (.val (.bin .add (.pk 2) (.val (.ix (.pk 0) (.val (.cst (.int 2))))))) (.val (.bin .fdiv (.val (.ix (.pk 0) (.val (.cst (.int 1))))) (.val (.cst (.int 1000003))))))) (.pk 3))))) (.val (.cst (.int 2147483629))))) (.cons (.ret (.bin .mod (.val (.bi .int (.val (.bin .fdiv (.val (.bin .mod (.val (.bi .int (.val (.bin .add (.val (.bin .mul (.pk 4) (.val (.cst (.int 48271))))) (.pk 2))))) (.val (.cst (.int 2147483587))))) (.val (.cst (.int 64))))))) (.pk 1))) .nil))))))⟩
def c11 : Fc := ⟨2, 6, [], (.cons (.asg (.nm 2) (.or2 (.bi .list (.val (.slc (.pk 0) none (some (.var 1))))) (.lst (.cons (.cst (.int 0)) .nil)))) (.cons (.fr (.tup [(.nm 3), (.nm 4)]) (.enum (.slc (.pk 0) (some (.var 1)) (some (.cst (.int 63))))) (.cons (.asg (.nm 5) (.bin .mod (.val (.bi .int (.pk 3))) (.pk 1))) (.cons (.stx 2 (.var 5) (.bin .add (.val (.ix (.pk 2) (.pk 5))) (.val (.bin .mul (.pk 4) (.val (.bin .add (.pk 3) (.val (.cst (.int 2))))))))) .nil))) (.cons (.ret (.mv 2)) .nil)))⟩
def c12 : Fc := ⟨2, 2, [], (.cons (.ret (.ix (.pk 1) (.val (.call 10 (.ref 0 (.val (.bi .len (.pk 1)) .nil)) [])))) .nil)⟩
def c13 : Fc := ⟨2, 4, [], (.cons (.ite (.not (.tr (.val (.isk .seq (.pk 1))))) (.cons (.ret (.var 1)) .nil) .nil) (.cons (.asg (.nm 2) (.lc [3] (.nm 3) (.sq (.var 1)) none (.call 13 (.ref 0 (.ref 3 .nil)) []))) (.cons (.ret (.ite (.cmp .eq (.val (.call 10 (.ref 0 (.val (.cst (.int 2)) .nil)) [])) (.val (.cst (.int 0)))) (.var 2) (.bi .tuple (.pk 2)))) .nil)))⟩
def c14 : Fc := ⟨2, 4, [], (.cons (.ite (.tr (.val (.isk .seq (.pk 1)))) (.cons (.ite (.or2 (.cmp .ne (.val (.isk .lst (.pk 0))) (.val (.isk .lst (.pk 1)))) (.cmp .ne (.val (.isk .tup (.pk 0))) (.val (.isk .tup (.pk 1))))) (.cons (.ret (.cst (.bl false))) .nil) .nil) (.cons (.ret (.and2 (.tst (.cmp .eq (.val (.bi .len (.pk 0))) (.val (.bi .len (.pk 1))))) (.bi .all (.val (.lc [2, 3] (.tup [(.nm 2), (.nm 3)]) (.zip (.var 0) (.var 1)) none (.call 14 (.ref 2 (.ref 3 .nil)) [])))))) .nil)) .nil) (.cons (.ite (.isN (.pk 1)) (.cons (.ret (.tst (.isN (.pk 0)))) .nil) .nil) (.cons (.ite (.tr (.val (.isk .bs (.pk 1)))) (.cons (.ret (.and2 (.tst (.cmp .eq (.val (.isk .bool (.pk 0))) (.val (.isk .bool (.pk 1))))) (.and2 (.tst (.cmp .eq (.val (.isk .str (.pk 0))) (.val (.isk .str (.pk 1))))) (.tst (.cmp .eq (.pk 0) (.pk 1)))))) .nil) .nil) (.cons (.ret (.and2 (.isk .int (.pk 0)) (.and2 (.tst (.not (.tr (.val (.isk .bool (.pk 0)))))) (.tst (.cmp .eq (.pk 0) (.pk 1)))))) .nil))))⟩
def c22 : Fc := ⟨1, 1, [], (.cons (.ret (.and2 (.isk .int (.pk 0)) (.tst (.not (.tr (.val (.isk .bool (.pk 0)))))))) .nil)⟩
def c23 : Fc := ⟨2, 2, [], (.cons (.ret (.and2 (.isk .tup (.pk 0)) (.tst (.cmp .eq (.val (.bi .len (.pk 0))) (.pk 1))))) .nil)⟩
def c24 : Fc := ⟨1, 2, [], (.cons (.ret (.and2 (.isk .tup (.pk 0)) (.bi .all (.val (.lc [1] (.nm 1) (.sq (.var 0)) none (.call 22 (.ref 1 .nil) [])))))) .nil)⟩
def c25 : Fc := ⟨1, 2, [], (.cons (.ret (.ite (.tr (.val (.isk .seq (.pk 0)))) (.bi .tuple (.val (.lc [1] (.nm 1) (.sq (.var 0)) none (.call 25 (.ref 1 .nil) [])))) (.var 0))) .nil)⟩
def c40 : Fc := ⟨1, 2, [], (.cons (.ret (.ite (.tr (.val (.isk .seq (.pk 0)))) (.lc [1] (.nm 1) (.sq (.var 0)) none (.call 40 (.ref 1 .nil) [])) (.var 0))) .nil)⟩
def c41 : Fc := ⟨2, 2, [], (.cons (.ite (.cmp .eq (.val (.bi .len (.pk 1))) (.val (.cst (.int 1)))) (.cons (.ret (.callv 0 (.val (.ix (.pk 1) (.val (.cst (.int 0)))) .nil))) .nil) .nil) (.cons (.ite (.cmp .eq (.val (.bi .len (.pk 1))) (.val (.cst (.int 2)))) (.cons (.ret (.callv 0 (.val (.ix (.pk 1) (.val (.cst (.int 0)))) (.val (.ix (.pk 1) (.val (.cst (.int 1)))) .nil)))) .nil) .nil) (.cons (.ite (.cmp .eq (.val (.bi .len (.pk 1))) (.val (.cst (.int 3)))) (.cons (.ret (.callv 0 (.val (.ix (.pk 1) (.val (.cst (.int 0)))) (.val (.ix (.pk 1) (.val (.cst (.int 1)))) (.val (.ix (.pk 1) (.val (.cst (.int 2)))) .nil))))) .nil) .nil) (.cons (.ite (.cmp .eq (.val (.bi .len (.pk 1))) (.val (.cst (.int 4)))) (.cons (.ret (.callv 0 (.val (.ix (.pk 1) (.val (.cst (.int 0)))) (.val (.ix (.pk 1) (.val (.cst (.int 1)))) (.val (.ix (.pk 1) (.val (.cst (.int 2)))) (.val (.ix (.pk 1) (.val (.cst (.int 3)))) .nil)))))) .nil) .nil) (.cons (.ret (.callv 0 (.val (.ix (.pk 1) (.val (.cst (.int 0)))) (.val (.ix (.pk 1) (.val (.cst (.int 1)))) (.val (.ix (.pk 1) (.val (.cst (.int 2)))) (.val (.ix (.pk 1) (.val (.cst (.int 3)))) (.val (.ix (.pk 1) (.val (.cst (.int 4)))) .nil))))))) .nil)))))⟩
def c42 : Fc := ⟨2, 5, [], (.cons (.tr (.cons (.ex (.call 41 (.ref 0 (.ref 1 .nil)) [])) .nil) [(1, (.str [117, 110, 102, 105, 116])), (3, (.str [99, 97, 110, 32, 110, 111, 116])), (4, (.str [109, 97, 110, 121]))]) (.cons (.ret (.cst (.str [116, 111, 108, 100]))) .nil))⟩
def c43 : Fc := ⟨2, 3, [0, 1], (.cons (.par [0, 1] (.cons (.bi .abs (.pk 0)) (.cons (.bi .abs (.pk 1)) .nil))) (.cons (.fr (.nm 2) (.rng1 (.cst (.int 9000))) (.cons (.ite (.cmp .eq (.pk 1) (.val (.cst (.int 0)))) (.cons .brk .nil) .nil) (.cons (.par [0, 1] (.cons (.var 1) (.cons (.bin .mod (.pk 0) (.pk 1)) .nil))) .nil))) (.cons (.ret (.var 0)) .nil)))⟩
def c131 : Fc := ⟨3, 3, [], (.cons (.ret (.and2 (.call 22 (.ref 0 .nil) []) (.tst (.chain .le .le (.pk 1) (.pk 0) (.pk 2))))) .nil)⟩
def c132 : Fc := ⟨3, 3, [], (.cons (.ite (.not (.tr (.val (.call 131 (.ref 0 (.ref 1 (.ref 2 .nil))) [])))) (.cons (.raise 1) .nil) .nil) (.cons (.ret (.var 0)) .nil))⟩
theorem take_T {T : Nat → Option Fn} [Hf T 10 c10] {k : Nat} (hk : 1 ≤ k) {z : Nat} {t : D} (ht : Tn z t) (hz : z < 900000000) {m : Int} (hm : 0 < m) (hm2 : m < 18446744073709551616) :
    ∃ (r : Nat) (t' : D), Phi T k 10 [.o t, .v (.int m)] = .ok (.v (.int r)) [.o t', .v (.int m)] ∧ Tn (z + 1) t' ∧ (r : Int) < m := by
  obtain ⟨a, b, c, rfl, h1, h2⟩ := ht
  obtain ⟨j, rfl, hj⟩ := suc_of hk
  obtain ⟨r, a', b', c', e, p1, p2, p3, p4⟩ := take_ok (T := T) (f := 10) (hf 10 c10) j a b c m hm hm2 h1 (by omega)
  obtain ⟨r, rfl⟩ := Int.eq_ofNat_of_zero_le p1
  exact ⟨r, _, e, ⟨a', b', c', rfl, by omega, by omega⟩, p2⟩
theorem of_T {T : Nat → Option Fn} [Hf T 10 c10] [Hf T 12 c12] {k : Nat} (hk : 2 ≤ k) {z : Nat} {t : D} (ht : Tn z t) (hz : z < 900000000) {ds : List D} (h0 : 0 < ds.length) (hl : ds.length < 1000000) :
    ∃ (d t' : D), Phi T k 12 [.o t, .v (.lst ds)] = .ok (.v d) [.o t', .v (.lst ds)] ∧ Tn (z + 1) t' ∧ d ∈ ds := by
  obtain ⟨a, b, c, rfl, h1, h2⟩ := ht
  obtain ⟨j, rfl⟩ : ∃ j, k = j + 2 := ⟨k - 2, by omega⟩
  obtain ⟨a', b', c', d, e, p1, p2, p3⟩ := of_ok (T := T) (f := 12) (t := 10) (hf 12 c12) (hf 10 c10) j a b c ds h0 hl h1 (by omega)
  exact ⟨d, _, e, ⟨a', b', c', rfl, by omega, by omega⟩, p1⟩
theorem mixed_T {T : Nat → Option Fn} [Hf T 10 c10] [Hf T 13 c13] {k : Nat} (hk : 12 ≤ k) {z : Nat} {t d : D} (ht : Tn z t) (hz : z < 800000000) (hd : sml d = true) (h8 : dep d ≤ 10) (hc : cnt d < 10000000) :
    ∃ (s : Sl) (t' : D), Phi T k 13 [.o t, .v d] = .ok s [.o t', .v d] ∧ Tn (z + cnt d) t' ∧ tupD s.d = tupD d ∧ sml s.d = true ∧ dep s.d = dep d := by
  obtain ⟨a, b, c, rfl, h1, h2⟩ := ht
  obtain ⟨j, rfl⟩ : ∃ j, k = j + 2 := ⟨k - 2, by omega⟩
  obtain ⟨s, a', b', c', e, p1, p2, p3, p4, p5⟩ := mixed_gen (T := T) (hf 13 c13) (hf 10 c10) j d a b c hd (by omega) h1 (by omega)
  exact ⟨s, _, e, ⟨a', b', c', rfl, by omega, by omega⟩, p1, p2, p3⟩
theorem same_T {T : Nat → Option Fn} [Hf T 14 c14] {k : Nat} (hk : 12 ≤ k) {d : D} (hd : sml d = true) (h8 : dep d ≤ 10) : Phi T k 14 [.v d, .v d] = .ok (.v (.bl true)) [.v d, .v d] :=
  same_ok (T := T) (f := 14) (hf 14 c14) k d hd (by omega)
theorem sameo_T {T : Nat → Option Fn} [Hf T 14 c14] {k : Nat} (hk : 12 ≤ k) {ds : List D} (hd : sml (.lst ds) = true) (h8 : deps ds ≤ 9) : Phi T k 14 [.o (.lst ds), .v (.lst ds)] = .ok (.v (.bl true)) [.v (.lst ds), .v (.lst ds)] := by
  rw [sml, Bool.and_eq_true, decide_eq_true_eq] at hd
  obtain ⟨j, rfl⟩ : ∃ j, k = j + 1 := ⟨k - 1, by omega⟩
  exact same_o (T := T) (f := 14) (hf 14 c14) j ds hd.2 hd.1 (by omega)
theorem tup_T {T : Nat → Option Fn} [Hf T 25 c25] {k : Nat} (hk : 12 ≤ k) {d : D} (hd : sml d = true) (h8 : dep d ≤ 10) : Phi T k 25 [.v d] = .ok (.v (tupD d)) [.v d] :=
  tup_ok (T := T) (f := 25) (hf 25 c25) k d hd (by omega)
theorem num_T {T : Nat → Option Fn} [Hf T 22 c22] {k : Nat} (hk : 1 ≤ k) {d : D} (hd : kin d = true) : Phi T k 22 [.v d] = .ok (.v (.bl (isNum d))) [.v d] :=
  ge_of (n := 1) (P := fun k => Phi T k 22 [.v d] = .ok (.v (.bl (isNum d))) [.v d]) (fun j => num_ok (T := T) (f := 22) (hf 22 c22) j d hd) k hk
theorem long_T {T : Nat → Option Fn} [Hf T 23 c23] {k : Nat} (hk : 1 ≤ k) {d : D} (hd : kin d = true) {n : Nat} : Phi T k 23 [.v d, .v (.int n)] = .ok (.v (.bl (longB n d))) [.v d, .v (.int n)] := by
  refine ge_of (n := 1) (P := fun k => Phi T k 23 [.v d, .v (.int n)] = .ok (.v (.bl (longB n d))) [.v d, .v (.int n)]) (fun j => ?_) k hk
  rw [long_ok (T := T) (f := 23) (hf 23 c23) j d n hd]
  congr 4
  cases d with
  | tup ds => simp only [longB]; exact decide_eq_decide.mpr (by omega)
  | _ => rfl
theorem long2_T {T : Nat → Option Fn} [Hf T 23 c23] {k : Nat} (hk : 1 ≤ k) {d : D} (hd : kin d = true) : Phi T k 23 [.v d, .v (.int 2)] = .ok (.v (.bl (longB 2 d))) [.v d, .v (.int 2)] := long_T (T := T) hk hd (n := 2)
theorem long3_T {T : Nat → Option Fn} [Hf T 23 c23] {k : Nat} (hk : 1 ≤ k) {d : D} (hd : kin d = true) : Phi T k 23 [.v d, .v (.int 3)] = .ok (.v (.bl (longB 3 d))) [.v d, .v (.int 3)] := long_T (T := T) hk hd (n := 3)
theorem nums_T {T : Nat → Option Fn} [Hf T 22 c22] [Hf T 24 c24] {k : Nat} (hk : 2 ≤ k) {d : D} (hd : sml d = true) : Phi T k 24 [.v d] = .ok (.v (.bl (numsB d))) [.v d] := by
  refine ge_of (n := 2) (P := fun k => Phi T k 24 [.v d] = .ok (.v (.bl (numsB d))) [.v d]) (fun j => ?_) k hk
  rw [nums_ok (T := T) (f := 24) (g := 22) (hf 24 c24) (hf 22 c22) j d (sml_pln hd) (fun ds e => sml_len (e ▸ hd))]
  cases d <;> rfl
theorem gcd_T {T : Nat → Option Fn} [Hf T 43 c43] {k : Nat} (hk : 1 ≤ k) {x y : Int} (hy : y.natAbs < 2 ^ 4000) : Phi T k 43 [.v (.int x), .v (.int y)] = .ok (.v (.int (Nat.gcd x.natAbs y.natAbs))) [.v (.int x), .v (.int y)] :=
  ge_of (n := 1) (P := fun k => Phi T k 43 [.v (.int x), .v (.int y)] = .ok (.v (.int (Nat.gcd x.natAbs y.natAbs))) [.v (.int x), .v (.int y)]) (fun j => gcd_ok (T := T) (f := 43) (hf 43 c43) j x y hy) k hk
/-! ### loops -/
theorem fz_id {ρ : Env} {j : Nat} (hv : ∀ d, gt ρ j ≠ some (.o d)) : fz ρ j = ρ := by
  unfold fz
  cases q : gt ρ j with
  | none => rfl
  | some s => cases s with
    | v d => rfl
    | o d => exact absurd q (hv d)
theorem rest_id {ρ : Env} {j : Nat} (hj : j < ρ.length) (x : Option Sl) : (ρ.set j x).set j (ρ[j]?.getD none) = ρ := by
  rw [List.set_set]
  apply List.ext_getElem?
  intro i
  by_cases hi : i = j
  · subst hi
    rw [List.getElem?_set_self hj, List.getElem?_eq_getElem hj]
    rfl
  · rw [List.getElem?_set_ne (by omega)]
/-- a comprehension of one name -/
theorem lcm_ok {α : Type} {Φ : PhiT} {j : Nat} {it : Ir} {e : E} {ρ ρ' : Env} (l : List α) (f g : α → D) (hit : evIt Φ it ρ = .ok (l.map f) ρ') (hl : l.length ≤ SZ) (hj : j < ρ'.length) (hv : ∀ d, gt ρ' j ≠ some (.o d))
    (h : ∀ a ∈ l, ∃ s, evE Φ e (ρ'.set j (some (.v (f a)))) = .ok s (ρ'.set j (some (.v (f a)))) ∧ s.d = g a) : evE Φ (.lc [j] (.nm j) it none e) ρ = .ok (.o (.lst (l.map g))) ρ' := by
  have hf : Rf.fzs ρ' [j] = ρ' := by rw [fzs_cons, fzs_nil, fz_id hv]
  have key : ∀ l : List α, (∀ a ∈ l, ∃ s, evE Φ e (ρ'.set j (some (.v (f a)))) = .ok s (ρ'.set j (some (.v (f a)))) ∧ s.d = g a) → lcL (.nm j) (evOT Φ none) (evE Φ e) [j] (l.map f) (ρ'.set j none) = .ok (l.map g) (ρ'.set j none) := fun l => by
    induction l with
    | nil => intro _; rfl
    | cons a l ih =>
      intro H
      obtain ⟨s, h1, h2⟩ := H a (List.mem_cons_self ..)
      rw [List.map_cons, lcL_turn (ρ1 := ρ'.set j (some (.v (f a)))) (by rw [asg_nm, List.set_set]) h1, wipeE_cons, wipeE_nil, List.set_set, ih fun b hb => H b (List.mem_cons_of_mem _ hb), R.bind_ok, List.map_cons, h2]
  have hR := lcR_ok (own := [j]) (tg := .nm j) (c := evOT Φ none) (f := evE Φ e) (xs := l.map f) (ρ := ρ') (by rw [List.length_map]; exact hl) (by rw [hf, wipeE_cons, wipeE_nil]; exact key l h)
  rw [ev_lc hit hR, hf, restE_cons, restE_nil]
  congr 1
  exact rest_id hj _
theorem lcmf_ok {α : Type} {Φ : PhiT} {j : Nat} {it : Ir} {c : Rf.T} {e : E} {ρ ρ' : Env} (l : List α) (f g : α → D) (p : α → Bool) (hit : evIt Φ it ρ = .ok (l.map f) ρ') (hl : l.length ≤ SZ) (hj : j < ρ'.length) (hv : ∀ d, gt ρ' j ≠ some (.o d))
    (h : ∀ a ∈ l, evT Φ c (ρ'.set j (some (.v (f a)))) = .ok (p a) (ρ'.set j (some (.v (f a)))) ∧ (p a = true → ∃ s, evE Φ e (ρ'.set j (some (.v (f a)))) = .ok s (ρ'.set j (some (.v (f a)))) ∧ s.d = g a)) : evE Φ (.lc [j] (.nm j) it (some c) e) ρ = .ok (.o (.lst ((l.filter p).map g))) ρ' := by
  have hf : Rf.fzs ρ' [j] = ρ' := by rw [fzs_cons, fzs_nil, fz_id hv]
  have key : ∀ l : List α, (∀ a ∈ l, evT Φ c (ρ'.set j (some (.v (f a)))) = .ok (p a) (ρ'.set j (some (.v (f a)))) ∧ (p a = true → ∃ s, evE Φ e (ρ'.set j (some (.v (f a)))) = .ok s (ρ'.set j (some (.v (f a)))) ∧ s.d = g a)) → lcL (.nm j) (evOT Φ (some c)) (evE Φ e) [j] (l.map f) (ρ'.set j none) = .ok ((l.filter p).map g) (ρ'.set j none) := fun l => by
    induction l with
    | nil => intro _; rfl
    | cons a l ih =>
      intro H
      obtain ⟨h1, h2⟩ := H a (List.mem_cons_self ..)
      have ih := ih fun b hb => H b (List.mem_cons_of_mem _ hb)
      rw [List.map_cons, lcL, asg_nm, List.set_set]
      dsimp only
      rw [qevOT_some, R.bind_of h1]
      cases hp : p a with
      | true =>
        obtain ⟨s, h3, h4⟩ := h2 hp
        rw [if_pos rfl, R.bind_of h3, wipeE_cons, wipeE_nil, List.set_set, R.bind_of ih, List.filter_cons_of_pos hp, List.map_cons, h4]
      | false =>
        rw [if_neg Bool.false_ne_true, wipeE_cons, wipeE_nil, List.set_set, List.filter_cons_of_neg (by rw [hp]; exact Bool.false_ne_true)]
        exact ih
  have hR := lcR_ok (own := [j]) (tg := .nm j) (c := evOT Φ (some c)) (f := evE Φ e) (xs := l.map f) (ρ := ρ') (by rw [List.length_map]; exact hl) (by rw [hf, wipeE_cons, wipeE_nil]; exact key l h)
  rw [ev_lc hit hR, hf, restE_cons, restE_nil]
  congr 1
  exact rest_id hj _
/-- a comprehension of two names -/
theorem lcmt_ok {α : Type} {Φ : PhiT} {i j : Nat} {it : Ir} {e : E} {ρ ρ' : Env} (l : List α) (f g u v : α → D) (hij : i ≠ j) (hit : evIt Φ it ρ = .ok (l.map f) ρ') (hl : l.length ≤ SZ) (hi : i < ρ'.length) (hj : j < ρ'.length) (hvi : ∀ d, gt ρ' i ≠ some (.o d)) (hvj : ∀ d, gt ρ' j ≠ some (.o d))
    (h : ∀ a ∈ l, unp (f a) = some [u a, v a] ∧ ∃ s, evE Φ e ((ρ'.set i (some (.v (u a)))).set j (some (.v (v a)))) = .ok s ((ρ'.set i (some (.v (u a)))).set j (some (.v (v a)))) ∧ s.d = g a) : evE Φ (.lc [i, j] (.tup [(.nm i), (.nm j)]) it none e) ρ = .ok (.o (.lst (l.map g))) ρ' := by
  have hf : Rf.fzs ρ' [i, j] = ρ' := by rw [fzs_cons, fzs_cons, fzs_nil, fz_id hvj, fz_id hvi]
  have hw : ∀ x y : Option Sl, wipeE ((ρ'.set i x).set j y) [i, j] = (ρ'.set j none).set i none := fun x y => by
    rw [wipeE_cons, wipeE_cons, wipeE_nil, List.set_set, List.set_comm _ _ hij, List.set_set]
  have key : ∀ l : List α, (∀ a ∈ l, unp (f a) = some [u a, v a] ∧ ∃ s, evE Φ e ((ρ'.set i (some (.v (u a)))).set j (some (.v (v a)))) = .ok s ((ρ'.set i (some (.v (u a)))).set j (some (.v (v a)))) ∧ s.d = g a) → lcL (.tup [(.nm i), (.nm j)]) (evOT Φ none) (evE Φ e) [i, j] (l.map f) ((ρ'.set j none).set i none) = .ok (l.map g) ((ρ'.set j none).set i none) := fun l => by
    induction l with
    | nil => intro _; rfl
    | cons a l ih =>
      intro H
      obtain ⟨hu, s, h1, h2⟩ := H a (List.mem_cons_self ..)
      rw [List.map_cons, lcL_turn (ρ1 := (ρ'.set i (some (.v (u a)))).set j (some (.v (v a)))) ?_ h1, hw]
      · rw [ih fun b hb => H b (List.mem_cons_of_mem _ hb), R.bind_ok, List.map_cons, h2]
      · rw [asg_tup']
        show (unp (f a)).bind _ = _
        rw [hu, Option.bind_some]
        show some ((((ρ'.set j none).set i none).set i (some (Sl.v (u a)))).set j (some (Sl.v (v a)))) = _
        rw [List.set_set, List.set_comm _ _ (Ne.symm hij), List.set_set]
  have hR := lcR_ok (own := [i, j]) (tg := .tup [(.nm i), (.nm j)]) (c := evOT Φ none) (f := evE Φ e) (xs := l.map f) (ρ := ρ') (by rw [List.length_map]; exact hl) (by rw [hf, wipeE_cons, wipeE_cons, wipeE_nil]; exact key l h)
  rw [ev_lc hit hR, hf, restE_cons, restE_cons, restE_nil]
  congr 1
  rw [List.set_comm _ _ hij, rest_id hj]
  exact rest_id hi _
@[simp] theorem intsD_nil : intsD [] = some [] := rfl
@[simp] theorem intsD_cons (i : Int) (r : List D) : intsD (.int i :: r) = (intsD r).map fun ns => i :: ns := rfl
theorem intsD_map {α : Type} (g : α → Int) : ∀ l : List α, intsD (l.map fun a => D.int (g a)) = some (l.map g)
  | [] => rfl
  | x :: l => by rw [List.map_cons, intsD_cons, intsD_map g l]; rfl
@[simp] theorem bi_sum_tup (ds : List D) : biD .sum (.tup ds) = (intsD ds).map fun ns => .v (.int ns.sum) := rfl
@[simp] theorem bi_sum_lst (ds : List D) : biD .sum (.lst ds) = (intsD ds).map fun ns => .v (.int ns.sum) := rfl
@[simp] theorem bi_min_tup (ds : List D) : biD .min (.tup ds) = minI ds := rfl
@[simp] theorem bi_min_lst (ds : List D) : biD .min (.lst ds) = minI ds := rfl
@[simp] theorem bi_max_tup (ds : List D) : biD .max (.tup ds) = maxI ds := rfl
@[simp] theorem bi_max_lst (ds : List D) : biD .max (.lst ds) = maxI ds := rfl
@[simp] theorem bi_all_lst (ds : List D) : biD .all (.lst ds) = (boolsD ds).map fun bs => .v (.bl (bs.all id)) := rfl
@[simp] theorem bi_any_lst (ds : List D) : biD .any (.lst ds) = (boolsD ds).map fun bs => .v (.bl (bs.any id)) := rfl
@[simp] theorem minI_2 (a b : Int) : minI [.int a, .int b] = some (.v (.int (min a b))) := rfl
@[simp] theorem maxI_2 (a b : Int) : maxI [.int a, .int b] = some (.v (.int (max a b))) := rfl
@[simp] theorem boolsD_nil : boolsD [] = some [] := rfl
@[simp] theorem boolsD_cons (i : Bool) (r : List D) : boolsD (.bl i :: r) = (boolsD r).map fun ns => i :: ns := rfl
theorem rngL_rg : ∀ (lo n : Nat), rngL (lo : Int) n = (List.range' lo n).map fun k => D.int (k : Nat)
  | _, 0 => rfl
  | lo, n + 1 => by rw [rngL, List.range'_succ, List.map_cons, ← rngL_rg (lo + 1) n]; rfl
theorem rng_nn (a b : Nat) (ha : a ≤ 1000000) (hb : b ≤ 1000000) : rngOf (.int a) (.int b) = some ((List.range' a (b - a)).map fun k => D.int (k : Nat)) := by
  have : rngOf (.int a) (.int b) = if rng62 (a : Int) && rng62 (b : Int) then some (rngL a ((b : Int) - a).toNat) else none := rfl
  rw [this, rng62_nat ha, rng62_nat hb, show ((b : Int) - a).toNat = b - a by omega, rngL_rg]
  rfl
theorem rng_0n (b : Nat) (hb : b ≤ 1000000) : rngOf (.int 0) (.int b) = some ((List.range' 0 b).map fun k => D.int (k : Nat)) := rng_nn 0 b (by decide) hb
theorem rng_1n (b : Nat) (hb : b ≤ 1000000) : rngOf (.int 1) (.int b) = some ((List.range' 1 (b - 1)).map fun k => D.int (k : Nat)) := rng_nn 1 b (by decide) hb
theorem strsD_map : ∀ (l : List (List Nat)), strsD (l.map D.str) = some l
  | [] => rfl
  | x :: l => by rw [List.map_cons, strsD, strsD_map l]; rfl
theorem joinN_nil : ∀ (l : List (List Nat)), joinN [] l = l.flatten
  | [] => rfl
  | [x] => by simp [joinN]
  | x :: y :: r => by rw [joinN, joinN_nil (y :: r)]; simp
/-- ''.join of letters -/
theorem join_letters (w : List Nat) (hw : w.length ≤ SZ) : metD .join "str" (.str []) (.lst (w.map fun c => .str [c])) = some (.v (.str w)) := by
  have h1 : strsD (w.map fun c => .str [c]) = some (w.map fun c => [c]) := by
    have := strsD_map (w.map fun c => [c])
    rwa [List.map_map] at this
  show (strsD _).bind _ = _
  rw [h1, Option.bind_some]
  have h2 : ((w.map fun c => [c]).map List.length).sum = w.length := by
    clear h1 hw
    induction w with
    | nil => rfl
    | cons x w ih => simp only [List.map_cons, List.sum_cons, List.length_cons, ih, List.length_nil]; omega
  rw [h2, if_pos (by simpa using hw), joinN_nil]
  congr 3
  clear h1 h2 hw
  induction w with
  | nil => rfl
  | cons x w ih => simp only [List.map_cons, List.flatten_cons, ih]; rfl
/-- a comprehension that draws: what holds of the env goes on -/
theorem lcL_st {Φ : PhiT} {tg : Tg} {f : Env → R Sl} {own : List Nat} (I : Nat → Env → Prop) (P : D → Prop) (c : Nat) : ∀ (xs : List D) (z : Nat) (ρ : Env), I z ρ →
    (∀ x ∈ xs, ∀ z' ρ, z' ≤ z + c * xs.length → I z' ρ → ∃ ρ1, asg tg (.v x) ρ = some ρ1 ∧ ∃ s ρ3, f ρ1 = .ok s ρ3 ∧ P s.d ∧ I (z' + c) (wipeE ρ3 own)) →
    ∃ ds ρ', lcL tg (evOT Φ none) f own xs ρ = .ok ds ρ' ∧ ds.length = xs.length ∧ (∀ d ∈ ds, P d) ∧ I (z + c * xs.length) ρ'
  | [], z, ρ, h, _ => ⟨[], ρ, rfl, rfl, (fun _ h => nomatch h), h⟩
  | x :: xs, z, ρ, h, H => by
    obtain ⟨ρ1, e1, s, ρ3, e2, h1, h2⟩ := H x (List.mem_cons_self ..) z ρ (by omega) h
    rw [List.length_cons, Nat.mul_succ] at H
    obtain ⟨ds, ρ', e3, h3, h4, h5⟩ := lcL_st I P c xs (z + c) _ h2 fun y hy z' ρ hz => H y (List.mem_cons_of_mem _ hy) z' ρ (by omega)
    refine ⟨s.d :: ds, ρ', ?_, by simp [h3], allC h1 h4, by rw [List.length_cons, Nat.mul_succ]; rwa [show z + (c * xs.length + c) = z + c + c * xs.length by omega]⟩
    rw [lcL_turn e1 e2, e3]
    rfl
/-- [f() for .. in range(n)] with draws: slot 0 any, slot 1 the state -/
theorem lc_draw {Φ : PhiT} {j : Nat} {it : Ir} {e : E} {ρ ρ' : Env} {xs : List D} (P : D → Prop) (c : Nat) {z : Nat} {t : D} (u : Nat) (hu : u ≠ j) (hu2 : u < ρ'.length) (hit : evIt Φ it ρ = .ok xs ρ') (hl : xs.length ≤ SZ) (hj : ρ'[j]? = some none) (ht : gt ρ' u = some (.o t)) (hT : Tn z t)
    (h : ∀ x ∈ xs, ∀ z' t, z' ≤ z + c * xs.length → Tn z' t → ∃ s t', evE Φ e ((ρ'.set u (some (.o t))).set j (some (.v x))) = .ok s ((ρ'.set u (some (.o t'))).set j (some (.v x))) ∧ P s.d ∧ Tn (z' + c) t') :
    ∃ ds t', evE Φ (.lc [j] (.nm j) it none e) ρ = .ok (.o (.lst ds)) (ρ'.set u (some (.o t'))) ∧ ds.length = xs.length ∧ (∀ d ∈ ds, P d) ∧ Tn (z + c * xs.length) t' := by
  have hjl : j < ρ'.length := by
    rcases Nat.lt_or_ge j ρ'.length with h | h
    · exact h
    · rw [List.getElem?_eq_none h] at hj; cases hj
  have hset : ∀ t, (ρ'.set u (some (Sl.o t))).set j none = ρ'.set u (some (.o t)) := fun t => by
    apply List.ext_getElem?
    intro i
    by_cases hi : i = j
    · subst hi
      rw [List.getElem?_set_self (by rw [List.length_set]; exact hjl), List.getElem?_set_ne hu, hj]
    · rw [List.getElem?_set_ne (by omega)]
  have hf : fz ρ' j = ρ' := by
    unfold fz
    have : gt ρ' j = none := by unfold gt; rw [hj]
    rw [this]
  have hself : ρ'.set u (some (.o t)) = ρ' := by
    apply List.ext_getElem?
    intro i
    by_cases hi : i = u
    · subst hi
      rw [List.getElem?_set_self hu2]
      unfold gt at ht
      cases q : ρ'[i]? with
      | none => rw [q] at ht; cases ht
      | some s => cases s with
        | none => rw [q] at ht; cases ht
        | some s => rw [q] at ht; injection ht with ht; rw [ht]
    · rw [List.getElem?_set_ne (by omega)]
  have hw : wipeE (Rf.fzs ρ' [j]) [j] = ρ' := by
    rw [fzs_cons, fzs_nil, hf, wipeE_cons, wipeE_nil, ← hself, hset]
  obtain ⟨ds, ρ2, e1, h1, h2, t2, rfl, h3⟩ := lcL_st (Φ := Φ) (tg := .nm j) (f := evE Φ e) (own := [j]) (fun z ρ => ∃ t, ρ = ρ'.set u (some (.o t)) ∧ Tn z t) P c xs z ρ' ⟨t, hself.symm, hT⟩ (fun x hx z' ρ hz hI => by
    obtain ⟨t1, rfl, hT1⟩ := hI
    obtain ⟨s, t2, e2, p1, p2⟩ := h x hx z' t1 hz hT1
    refine ⟨_, asg_nm _ _ _, s, _, e2, p1, t2, ?_, p2⟩
    rw [wipeE_cons, wipeE_nil, List.set_set, hset])
  refine ⟨ds, t2, ?_, h1, h2, h3⟩
  have hR := lcR_ok (tg := .nm j) (c := evOT Φ none) (f := evE Φ e) (own := [j]) (ρ := ρ') (ds := ds) hl (by rw [hw]; exact e1)
  rw [ev_lc hit hR, fzs_cons, fzs_nil, hf, restE_cons, restE_nil, hj]
  show R.ok _ ((ρ'.set u (some (.o t2))).set j none) = _
  rw [hset]
theorem forL_fold {α β : Type} {tg : Tg} {b : Env → O} (f : α → D) (E : β → Option Sl → Env) (step : β → α → β) (P : β → Prop) : ∀ (l : List α) (s : β) (x : Option Sl), P s →
    (∀ a ∈ l, ∀ s x, P s → ∃ ρ1, asg tg (.v (f a)) (E s x) = some ρ1 ∧ (∃ x', b ρ1 = .nx (E (step s a) x')) ∧ P (step s a)) → ∃ x', forL tg b (l.map f) (E s x) = .nx (E (l.foldl step s) x') ∧ P (l.foldl step s)
  | [], s, x, hP, _ => ⟨x, rfl, hP⟩
  | a :: l, s, x, hP, H => by
    obtain ⟨ρ1, e1, ⟨x', e2⟩, h1⟩ := H a (List.mem_cons_self ..) s x hP
    obtain ⟨x2, e3, h2⟩ := forL_fold f E step P l (step s a) x' h1 fun c hc => H c (List.mem_cons_of_mem _ hc)
    refine ⟨x2, ?_, h2⟩
    rw [List.map_cons, forL, e1]
    dsimp only
    rw [e2]
    exact e3
/-- a comprehension of two clauses -/
theorem lc2m_ok {α β : Type} {Φ : PhiT} {i j : Nat} {it it1 : Ir} {e : E} {ρ ρ' : Env} (l : List α) (f : α → D) (m : α → List β) (f1 : β → D) (g : α → β → D) (hij : i ≠ j) (hit : evIt Φ it ρ = .ok (l.map f) ρ') (hi : i < ρ'.length) (hj : j < ρ'.length) (hvi : ∀ d, gt ρ' i ≠ some (.o d)) (hvj : ∀ d, gt ρ' j ≠ some (.o d)) (hl : (l.map fun a => (m a).length).sum ≤ SZ)
    (h1 : ∀ a ∈ l, evIt Φ it1 ((ρ'.set i none).set j (some (.v (f a)))) = .ok ((m a).map f1) ((ρ'.set i none).set j (some (.v (f a)))))
    (h : ∀ a ∈ l, ∀ b ∈ m a, ∃ s, evE Φ e ((ρ'.set j (some (.v (f a)))).set i (some (.v (f1 b)))) = .ok s ((ρ'.set j (some (.v (f a)))).set i (some (.v (f1 b)))) ∧ s.d = g a b) :
    evE Φ (.lc2 [j, i] [i] (.nm j) it none (.nm i) it1 none e) ρ = .ok (.o (.lst (l.flatMap fun a => (m a).map (g a)))) ρ' := by
  have hf : Rf.fzs ρ' [j, i] = ρ' := by rw [fzs_cons, fzs_cons, fzs_nil, fz_id hvi, fz_id hvj]
  have hw : ∀ x y : Option Sl, wipeE ((ρ'.set j x).set i y) [j, i] = (ρ'.set i none).set j none := fun x y => by
    rw [wipeE_cons, wipeE_cons, wipeE_nil, List.set_set, List.set_comm _ _ (Ne.symm hij), List.set_set]
  have inner : ∀ (a : α) (bs : List β), (∀ b ∈ bs, ∃ s, evE Φ e ((ρ'.set j (some (.v (f a)))).set i (some (.v (f1 b)))) = .ok s ((ρ'.set j (some (.v (f a)))).set i (some (.v (f1 b)))) ∧ s.d = g a b) → lcL (.nm i) (evOT Φ none) (evE Φ e) [i] (bs.map f1) ((ρ'.set j (some (.v (f a)))).set i none) = .ok (bs.map (g a)) ((ρ'.set j (some (.v (f a)))).set i none) := fun a bs => by
    induction bs with
    | nil => intro _; rfl
    | cons b bs ih =>
      intro H
      obtain ⟨s, e1, e2⟩ := H b (List.mem_cons_self ..)
      rw [List.map_cons, lcL_turn (ρ1 := (ρ'.set j (some (.v (f a)))).set i (some (.v (f1 b)))) (by rw [asg_nm, List.set_set]) e1, wipeE_cons, wipeE_nil, List.set_set, ih fun c hc => H c (List.mem_cons_of_mem _ hc), R.bind_ok, List.map_cons, e2]
  have key : ∀ (l : List α) (n : Nat), n + (l.map fun a => (m a).length).sum ≤ SZ → (∀ a ∈ l, evIt Φ it1 ((ρ'.set i none).set j (some (.v (f a)))) = .ok ((m a).map f1) ((ρ'.set i none).set j (some (.v (f a))))) → (∀ a ∈ l, ∀ b ∈ m a, ∃ s, evE Φ e ((ρ'.set j (some (.v (f a)))).set i (some (.v (f1 b)))) = .ok s ((ρ'.set j (some (.v (f a)))).set i (some (.v (f1 b)))) ∧ s.d = g a b) →
      lcL2 (.nm j) (evOT Φ none) (evIt Φ it1) (.nm i) (evOT Φ none) (evE Φ e) [j, i] [i] n (l.map f) ((ρ'.set i none).set j none) = .ok (l.flatMap fun a => (m a).map (g a)) ((ρ'.set i none).set j none) := fun l => by
    induction l with
    | nil => intro n _ _ _; rfl
    | cons a l ih =>
      intro n hn H1 H
      rw [List.map_cons, List.sum_cons] at hn
      have ih := ih (n + (m a).length) (by omega) (fun b hb => H1 b (List.mem_cons_of_mem _ hb)) fun b hb => H b (List.mem_cons_of_mem _ hb)
      have e1 := H1 a (List.mem_cons_self ..)
      have e2 := inner a (m a) (H a (List.mem_cons_self ..))
      rw [List.map_cons, lcL2, asg_nm, List.set_set]
      dsimp only
      rw [qevOT_none, R.bind_ok, if_pos rfl, R.bind_of e1, if_pos (by rw [List.length_map]; omega), wipeE_cons, wipeE_nil]
      rw [List.set_comm _ _ (Ne.symm hij), List.set_set, List.set_comm _ _ hij, R.bind_of e2, List.length_map, hw, R.bind_of ih, List.flatMap_cons]
  have k2 := key l 0 (by omega) h1 h
  have hR : lcR2 [j, i] [i] (.nm j) (evOT Φ none) (evIt Φ it1) (.nm i) (evOT Φ none) (evE Φ e) (l.map f) ρ' = .ok (.o (.lst (l.flatMap fun a => (m a).map (g a)))) (restE ρ' ((ρ'.set i none).set j none) [j, i]) := by
    unfold lcR2
    dsimp only
    rw [hf, wipeE_cons, wipeE_cons, wipeE_nil, k2]
    rfl
  rw [qevE_lc2, R.bind_of hit, hR, restE_cons, restE_cons, restE_nil]
  congr 1
  rw [List.set_comm _ _ (Ne.symm hij), rest_id hi]
  exact rest_id hj _
theorem letters_of : ∀ (ds : List D) (P : Nat → Prop), (∀ d ∈ ds, ∃ c, d = .str [c] ∧ P c) → ∃ w : List Nat, ds = w.map (fun c => .str [c]) ∧ ∀ c ∈ w, P c
  | [], P, _ => ⟨[], rfl, fun _ h => nomatch h⟩
  | d :: ds, P, h => by
    obtain ⟨c, rfl, hc⟩ := h d (List.mem_cons_self ..)
    obtain ⟨w, rfl, hw⟩ := letters_of ds P fun x hx => h x (List.mem_cons_of_mem _ hx)
    exact ⟨c :: w, rfl, allC hc hw⟩
theorem mulOk_m {i j : Int} (hi : i.natAbs < 2 ^ 1000) (hj : j.natAbs < 2 ^ 1000) : mulOk i j = true := by
  have h : ∀ n : Nat, n < 2 ^ 1000 → n.log2 ≤ 1000 := fun n hn => by
    rcases Nat.eq_zero_or_pos n with h0 | h0
    · rw [h0]; decide
    · exact Nat.le_of_lt ((Nat.log2_lt (by omega)).mpr hn)
  have h1 := h _ hi
  have h2 := h _ hj
  unfold mulOk
  rw [decide_eq_true (p := i.natAbs.log2 + j.natAbs.log2 < 134217000) (by omega)]
  simp
theorem bin_mul_m {i j : Int} (hi : i.natAbs < 2 ^ 1000) (hj : j.natAbs < 2 ^ 1000) : binD .mul (.int i) (.int j) = some (.v (.int (i * j))) := if_pos (mulOk_m hi hj)
def R.env {α : Type} : R α → Env
  | .ok _ ρ => ρ
  | .ex _ ρ => ρ
  | .bad => []
theorem forL_st {tg : Tg} {b : Env → O} (I : Nat → Env → Prop) (c : Nat) : ∀ (xs : List D) (z : Nat) (ρ : Env), I z ρ →
    (∀ x ∈ xs, ∀ z' ρ, z' ≤ z + c * xs.length → I z' ρ → ∃ ρ1, asg tg (.v x) ρ = some ρ1 ∧ ∃ ρ2, b ρ1 = .nx ρ2 ∧ I (z' + c) ρ2) → ∃ ρ', forL tg b xs ρ = .nx ρ' ∧ I (z + c * xs.length) ρ'
  | [], z, ρ, h, _ => ⟨ρ, rfl, h⟩
  | x :: xs, z, ρ, h, H => by
    obtain ⟨ρ1, e1, ρ2, e2, h2⟩ := H x (List.mem_cons_self ..) z ρ (by omega) h
    rw [List.length_cons, Nat.mul_succ] at H
    obtain ⟨ρ', e3, h3⟩ := forL_st I c xs (z + c) ρ2 h2 fun y hy z' ρ hz => H y (List.mem_cons_of_mem _ hy) z' ρ (by omega)
    refine ⟨ρ', ?_, by rw [List.length_cons, Nat.mul_succ]; rwa [show z + (c * xs.length + c) = z + c + c * xs.length by omega]⟩
    rw [forL, e1]
    dsimp only
    rw [e2]
    exact e3
theorem cmp_nil {ds : List D} (h : plns ds = true) : cmpD .eq (.lst ds) (.lst []) = some ds.isEmpty := by
  have h1 : eqOk (.lst ds) (.lst []) = true := by
    unfold eqOk
    rw [show pln (.lst ds) = true from h]
    have : min (dep (.lst ds)) (dep (.lst [])) ≤ 64 := Nat.le_trans (Nat.min_le_right _ _) (by decide)
    rw [decide_eq_true this]
    rfl
  show (if eqOk (.lst ds) (.lst []) then some (peq (.lst ds) (.lst [])) else none) = _
  rw [if_pos h1]
  cases ds <;> rfl
/-! ### the law's frame -/
theorem box_st {T : Nat → Option Fn} [Hf T 11 c11] {fb : Nat} {zb : Int} (hb : T fb = some (.py (boxC zb))) {k : Nat} (hk : 2 ≤ k) (ns : List Int) (h : ns.length ≤ 63) (r : Env) :
    ∃ t, Tn 0 t ∧ evS (Phi T k) (.asg (.nm 1) (.call fb (.val (.call 11 (.ref 0 (.val (.cst (.int 1)) .nil)) []) (.val (.cst (.int 0)) .nil)) [])) (some (.v (.scr (ns.map .int))) :: none :: r) = .nx (some (.v (.scr (ns.map .int))) :: some (.o t) :: r) := by
  obtain ⟨j, rfl⟩ : ∃ j, k = j + 1 := ⟨k - 1, by omega⟩
  obtain ⟨xs, e1, h1, h2⟩ := cells_ok (T := T) (hf 11 c11) j ns 1 (by decide) (by decide) h
  obtain ⟨a, b, e2⟩ := box_ok hb j xs 0 (by decide) _ (.inl rfl)
  refine ⟨_, ⟨a, b, 0, rfl, by decide, by decide⟩, ?_⟩
  simp only [Int.natCast_one, Int.natCast_zero] at e1 e2
  generalize Phi T (j + 1) = Φ at *
  unfold tinL at *

  simp [e1, e2]
/-- all([R(tin) for .. in range(n)]) -/
theorem all_turns {Φ : PhiT} {j R n : Nat} {ρ : Env} {z : Nat} {t : D} (c : Nat) (hn : n ≤ 1000) (hj1 : 1 ≠ j) (h1 : 1 < ρ.length) (hj : ρ[j]? = some none) (ht : gt ρ 1 = some (.o t)) (hT : Tn z t)
    (h : ∀ z' t, z' ≤ z + c * n → Tn z' t → ∃ t', Φ R [.o t] = .ok (.v (.bl true)) [.o t'] ∧ Tn (z' + c) t') :
    ∃ t', evE Φ (.bi .all (.val (.lc [j] (.nm j) (.rng1 (.cst (.int (n : Nat)))) none (.call R (.ref 1 .nil) [])))) ρ = .ok (.v (.bl true)) (ρ.set 1 (some (.o t'))) ∧ Tn (z + c * n) t' := by
  obtain ⟨ds, t', e, h3, h4, h5⟩ := lc_draw (Φ := Φ) (e := .call R (.ref 1 .nil) []) (it := .rng1 (.cst (.int (n : Nat)))) (ρ := ρ) (fun d => d = .bl true) c 1 hj1 h1 (xs := (List.range' 0 n).map fun k => D.int (k : Nat)) (ρ' := ρ) (by
      have := rng_0n n (by omega)
      simp [this]) (by rw [List.length_map, List.length_range']; exact le_SZ (by omega)) hj ht hT (fun x _ z' t hz ht' => by
      rw [List.length_map, List.length_range'] at hz
      obtain ⟨t1, e1, e2⟩ := h z' t hz ht'
      refine ⟨.v (.bl true), t1, ?_, rfl, e2⟩
      have hjl : j < ρ.length := by
        rcases Nat.lt_or_ge j ρ.length with h | h
        · exact h
        · rw [List.getElem?_eq_none h] at hj; cases hj
      have g1 : gt ((ρ.set 1 (some (Sl.o t))).set j (some (Sl.v x))) 1 = some (.o t) := by
        unfold gt
        rw [List.getElem?_set_ne (by omega), List.getElem?_set_self h1]
      simp [g1, e1]
      rw [List.set_comm _ _ (Ne.symm hj1), List.set_set])
  rw [List.length_map, List.length_range'] at h3 h5
  refine ⟨t', ?_, h5⟩
  have h6 : boolsD ds = some (List.replicate ds.length true) := by
    clear e h3
    induction ds with
    | nil => rfl
    | cons d ds ih =>
      rw [h4 d (List.mem_cons_self ..), boolsD_cons, ih fun x hx => h4 x (List.mem_cons_of_mem _ hx)]
      rfl
  simp [e, h6]
/-- law(script): the state, what is fixed, then all the turns; slots: 0 the script, 1 the state -/
theorem law_main {T : Nat → Option Fn} {L : Nat} {c : Fc} [Hf T 11 c11] {fb : Nat} {zb : Int} (hb : T fb = some (.py (boxC zb))) (hL : T L = some (.py c)) {q0 : S} {mid : Ss} {nl : Nat} (hc : c = ⟨1, nl + 2, [], .cons q0 mid⟩)
    (hq : q0 = .asg (.nm 1) (.call fb (.val (.call 11 (.ref 0 (.val (.cst (.int 1)) .nil)) []) (.val (.cst (.int 0)) .nil)) []))
    (hm : ∀ (x : D) (t : D), Tn 0 t → ∃ ρ, evSs (Phi T 58) mid (some (.v x) :: some (.o t) :: List.replicate nl none) = .rt (.v (.bl true)) ρ)
    (ns : List Int) (h : ns.length ≤ 63) : ∃ ss, Phi T 59 L [.v (.scr (ns.map .int))] = .ok (.v (.bl true)) ss := by
  obtain ⟨t, ht, e⟩ := box_st hb (k := 58) (by decide) ns h (List.replicate nl none)
  obtain ⟨ρ, e2⟩ := hm (.scr (ns.map .int)) t ht
  subst hc
  refine ⟨[.v (.scr (ns.map .int))], phi_rt hL rfl (ρ' := ρ) ?_ rfl⟩
  show evSs (Phi T 58) (.cons q0 mid) (some (.v (.scr (ns.map .int))) :: none :: List.replicate nl none) = _
  rw [ss_c, hq, e, O.then_nx, e2]
end Rf

/-! Ps1: stair words, plain. -/
namespace Rf
def sq {α : Type} (f : Nat → α) : Nat → Nat → List α
  | _, 0 => []
  | lo, n + 1 => f lo :: sq f (lo + 1) n
theorem sq_congr {α : Type} (f g : Nat → α) : ∀ (lo n : Nat), (∀ k, lo ≤ k → k < lo + n → f k = g k) → sq f lo n = sq g lo n
  | _, 0, _ => rfl
  | lo, n + 1, h => by rw [sq, sq, h lo (by omega) (by omega), sq_congr f g (lo + 1) n fun k h1 h2 => h k (by omega) (by omega)]
theorem sq_len {α : Type} (f : Nat → α) : ∀ lo n, (sq f lo n).length = n
  | _, 0 => rfl
  | lo, n + 1 => by rw [sq, List.length_cons, sq_len f (lo + 1) n]
def stairP (h m : Nat) : List Nat := if h = 0 then [97] else sq (fun k => if k * h % m < (k + 1) * h % m then 97 else 98) 0 m
def stairL (h m : Nat) : List Nat := sq (fun k => if (k + 1) * h / m > k * h / m then 98 else 97) 0 m
-- from here on new
theorem sq_app {α : Type} (f : Nat → α) : ∀ (lo n m : Nat), sq f lo (n + m) = sq f lo n ++ sq f (lo + n) m
  | lo, 0, m => by rw [Nat.zero_add, Nat.add_zero, sq, List.nil_append]
  | lo, n + 1, m => by rw [Nat.succ_add, sq, sq, sq_app f (lo + 1) n m, List.cons_append, Nat.add_right_comm lo 1 n]; rfl
theorem sq_shift {α : Type} (f : Nat → α) (d : Nat) : ∀ (lo n : Nat), sq f (lo + d) n = sq (fun k => f (k + d)) lo n
  | _, 0 => rfl
  | lo, n + 1 => by rw [sq, sq, Nat.add_right_comm lo d 1, sq_shift f d (lo + 1) n]
theorem sq_take {α : Type} (f : Nat → α) (lo n m : Nat) (h : m ≤ n) : (sq f lo n).take m = sq f lo m := by
  obtain ⟨d, rfl⟩ := Nat.exists_eq_add_of_le h
  rw [sq_app, List.take_left' (sq_len f lo m)]
theorem sq_drop {α : Type} (f : Nat → α) (lo n m : Nat) (h : m ≤ n) : (sq f lo n).drop m = sq f (lo + m) (n - m) := by
  obtain ⟨d, rfl⟩ := Nat.exists_eq_add_of_le h
  rw [sq_app, List.drop_left' (sq_len f lo m), Nat.add_sub_cancel_left]
theorem sq_get {α : Type} (f : Nat → α) : ∀ (lo n i : Nat), i < n → (sq f lo n)[i]? = some (f (lo + i))
  | _, 0, _, h => absurd h (Nat.not_lt_zero _)
  | lo, n + 1, 0, _ => rfl
  | lo, n + 1, i + 1, h => by rw [sq, List.getElem?_cons_succ, sq_get f (lo + 1) n i (by omega), Nat.add_right_comm, Nat.add_assoc]
theorem list_ext_get {α : Type} {xs ys : List α} (hl : xs.length = ys.length) (h : ∀ i, i < xs.length → xs[i]? = ys[i]?) : xs = ys := by
  apply List.ext_getElem? 
  intro i
  by_cases hi : i < xs.length
  · exact h i hi
  · rw [List.getElem?_eq_none (by omega), List.getElem?_eq_none (by omega)]
/-- floors of neighbours -/
theorem fl_step {h m : Nat} (h0 : 0 < m) (hm : h ≤ m) (k : Nat) : (k * h / m ≤ (k + 1) * h / m ∧ (k + 1) * h / m ≤ k * h / m + 1) := by
  rw [Nat.succ_mul]
  have h1 := Nat.div_le_div_right (c := m) (show k * h ≤ k * h + h by omega)
  have h2 := Nat.div_le_div_right (c := m) (show k * h + h ≤ k * h + m by omega)
  rw [Nat.add_div_right _ h0] at h2
  exact ⟨h1, h2⟩
theorem stair_PL {h m : Nat} (hm : h < m ∨ m = 1) (h1 : h ≤ m) (h0 : h = 0 → m = 1) : stairP h m = stairL h m := by
  unfold stairP stairL
  by_cases hz : h = 0
  · rw [if_pos hz, h0 hz, hz]; rfl
  rw [if_neg hz]
  apply sq_congr
  intro k _ _
  rcases hm with hm | hm
  · have e1 := Nat.div_add_mod (k * h) m
    have e2 := Nat.div_add_mod ((k + 1) * h) m
    have l1 := Nat.mod_lt (k * h) (show 0 < m by omega)
    have l2 := Nat.mod_lt ((k + 1) * h) (show 0 < m by omega)
    obtain ⟨s1, s2⟩ := fl_step (show 0 < m by omega) (show h ≤ m by omega) k
    have e3 : (k + 1) * h = k * h + h := Nat.succ_mul k h
    rcases Nat.lt_or_ge (k * h / m) ((k + 1) * h / m) with hc | hc
    · have : (k + 1) * h / m = k * h / m + 1 := by omega
      rw [this, Nat.mul_succ] at e2
      rw [if_neg (by omega), if_pos hc]
    · have : (k + 1) * h / m = k * h / m := by omega
      rw [this] at e2
      rw [if_pos (by omega), if_neg (by omega)]
  · subst hm
    have : h = 1 := by omega
    subst this
    simp [Nat.mod_one]
/-- the letters b ahead of a place -/
theorem cnt_sq {h m : Nat} (h0 : 0 < m) (hm : h ≤ m) : ∀ (n lo : Nat), (sq (fun k => if (k + 1) * h / m > k * h / m then 98 else 97) lo n).count 98 + lo * h / m = (lo + n) * h / m
  | 0, lo => by simp [sq]
  | n + 1, lo => by
    rw [sq]
    have ih := cnt_sq h0 hm n (lo + 1)
    obtain ⟨s1, s2⟩ := fl_step h0 hm lo
    rw [Nat.add_right_comm] at ih
    by_cases hc : (lo + 1) * h / m > lo * h / m
    · rw [if_pos hc, List.count_cons_self]
      show _ = (lo + n + 1) * h / m
      omega
    · rw [if_neg hc, List.count_cons_of_ne (by decide)]
      show _ = (lo + n + 1) * h / m
      omega
theorem cntA_sq (f : Nat → Bool) : ∀ (n lo : Nat), (sq (fun k => if f k then 98 else 97) lo n).count 98 + (sq (fun k => if f k then 98 else 97) lo n).count 97 = n
  | 0, lo => by simp [sq]
  | n + 1, lo => by
    rw [sq]
    have ih := cntA_sq f n (lo + 1)
    by_cases hc : f lo = true
    · rw [if_pos hc, List.count_cons_self, List.count_cons_of_ne (by decide)]; omega
    · rw [if_neg hc, List.count_cons_self, List.count_cons_of_ne (by decide)]; omega
/-- the first part -/
theorem fl_near {h m c h1 : Nat} (hc : c * h = h1 * m + 1) (hcm : c < m) (h0 : 0 < c) (k : Nat) (hk : k ≤ c) : k * h1 / c = k * h / m := by
  have hm : 0 < m := by omega
  apply Nat.le_antisymm
  · -- k h1 / c ≤ k h / m
    rw [Nat.le_div_iff_mul_le hm]
    have e := Nat.div_mul_le_self (k * h1) c
    generalize k * h1 / c = j at *
    apply Nat.le_of_mul_le_mul_right _ h0
    calc j * m * c = j * c * m := Nat.mul_right_comm ..
      _ ≤ k * h1 * m := Nat.mul_le_mul_right m e
      _ ≤ k * (h1 * m + 1) := by rw [Nat.mul_assoc]; exact Nat.mul_le_mul_left k (Nat.le_succ _)
      _ = k * h * c := by rw [← hc, ← Nat.mul_assoc, Nat.mul_right_comm]
  · rw [Nat.le_div_iff_mul_le h0]
    have e := Nat.div_mul_le_self (k * h) m
    generalize k * h / m = j at *
    -- j m ≤ k h ; want j c ≤ k h1
    rcases Nat.lt_or_ge (k * h1) (j * c) with hlt | hge
    · exfalso
      have e1 : j * m * c ≤ k * h * c := Nat.mul_le_mul_right c e
      have e2 : k * h * c = k * h1 * m + k := by
        rw [Nat.mul_assoc, Nat.mul_comm h c, hc, Nat.mul_add, ← Nat.mul_assoc, Nat.mul_one]
      have e3 : (k * h1 + 1) * m ≤ j * c * m := Nat.mul_le_mul_right m hlt
      have e4 : j * c * m = j * m * c := Nat.mul_right_comm ..
      rw [Nat.add_mul, Nat.one_mul] at e3
      omega
    · exact hge
/-- the second part -/
theorem fl_far {h m c h1 : Nat} (hc : c * h = h1 * m + 1) (hcm : c < m) (h0 : 0 < c) (hh : h1 ≤ h) (k : Nat) (hk : k ≤ m - c) : k * (h - h1) / (m - c) + h1 = (k + c) * h / m := by
  have hm : 0 < m := by omega
  have hd : 0 < m - c := by omega
  obtain ⟨d, rfl⟩ : ∃ d, h = h1 + d := Nat.exists_eq_add_of_le hh
  obtain ⟨e, rfl⟩ : ∃ e, m = c + e := ⟨m - c, by omega⟩
  have x1 : h1 + d - h1 = d := by omega
  have x2 : c + e - c = e := by omega
  have hd : 0 < e := by omega
  rw [x1, x2]
  -- c d = h1 e + 1
  have hc' : c * d = h1 * e + 1 := by
    have : c * (h1 + d) = c * h1 + c * d := Nat.mul_add ..
    have h2 : h1 * (c + e) = c * h1 + h1 * e := by rw [Nat.mul_add, Nat.mul_comm h1 c]
    omega
  have key : (k + c) * (h1 + d) = k * (h1 + d) + 1 + h1 * (c + e) := by
    rw [Nat.add_mul, hc]; omega
  rw [key, Nat.add_mul_div_right _ _ hm]
  congr 1
  apply Nat.le_antisymm
  · rw [Nat.le_div_iff_mul_le hm]
    have q := Nat.div_mul_le_self (k * d) e
    generalize k * d / e = j at *
    -- j e ≤ k d → j (c+e) ≤ k (h1 + d) + 1
    apply Nat.le_of_mul_le_mul_right _ hd
    calc j * (c + e) * e = j * e * (c + e) := Nat.mul_right_comm ..
      _ ≤ k * d * (c + e) := Nat.mul_le_mul_right _ q
      _ = k * (c * d) + k * d * e := by rw [Nat.mul_add, Nat.mul_assoc, Nat.mul_comm d c]
      _ = k * h1 * e + k + k * d * e := by rw [hc', Nat.mul_add, ← Nat.mul_assoc, Nat.mul_one]
      _ ≤ (k * (h1 + d) + 1) * e := by rw [Nat.mul_add k, Nat.add_mul, Nat.add_mul]; omega
  · rw [Nat.le_div_iff_mul_le hd]
    have q := Nat.div_mul_le_self (k * (h1 + d) + 1) (c + e)
    generalize (k * (h1 + d) + 1) / (c + e) = j at *
    rcases Nat.lt_or_ge (k * d) (j * e) with hlt | hge
    · exfalso
      have e1 : (k * d + 1) * (c + e) ≤ j * e * (c + e) := Nat.mul_le_mul_right _ hlt
      have e2 : j * (c + e) * e ≤ (k * (h1 + d) + 1) * e := Nat.mul_le_mul_right _ q
      have e3 : j * e * (c + e) = j * (c + e) * e := Nat.mul_right_comm ..
      have e4 : k * d * (c + e) = k * h1 * e + k + k * d * e := by
        rw [Nat.mul_add, Nat.mul_assoc, Nat.mul_comm d c, hc', Nat.mul_add, ← Nat.mul_assoc, Nat.mul_one]
      have e5 : (k * (h1 + d) + 1) * e = k * h1 * e + k * d * e + e := by rw [Nat.mul_add k, Nat.add_mul, Nat.add_mul]; omega
      rw [Nat.add_mul, Nat.one_mul] at e1
      omega
    · exact hge
theorem stair_parts {h m c h1 : Nat} (hc : c * h = h1 * m + 1) (hcm : c < m) (h0 : 0 < c) (hh : h1 ≤ h) : stairL h m = stairL h1 c ++ stairL (h - h1) (m - c) := by
  unfold stairL
  conv => lhs; rw [show m = c + (m - c) by omega]
  rw [sq_app]
  congr 1
  · apply sq_congr
    intro k _ hk
    have m1 : c + (m - c) = m := by omega
    rw [fl_near hc hcm h0 k (by omega), fl_near hc hcm h0 (k + 1) (by omega), m1]
  · rw [sq_shift]
    apply sq_congr
    intro k _ hk
    have m1 : c + (m - c) = m := by omega
    have f1 := fl_far hc hcm h0 hh k (by omega)
    have f2 := fl_far hc hcm h0 hh (k + 1) (by omega)
    rw [m1, show k + c + 1 = k + 1 + c by omega, ← f1, ← f2]
    simp only [gt_iff_lt, Nat.add_lt_add_iff_right]
/-- the middle is the same from the end -/
theorem stair_pal {h m : Nat} (hm : h < m) (h0 : 0 < h) (hg : Nat.gcd h m = 1) (k : Nat) (h1 : 1 ≤ k) (h2 : k + 2 ≤ m) : ((k + 1) * h / m > k * h / m ↔ (m - 1 - k + 1) * h / m > (m - 1 - k) * h / m) := by
  have m0 : 0 < m := by omega
  -- floor ((m - j) h / m) = h - floor (j h / m) - 1, for j h not divisible
  have key : ∀ j, 1 ≤ j → j < m → (m - j) * h / m + j * h / m + 1 = h := fun j a b => by
    have nd : ¬ m ∣ j * h := fun hd => by
      have := (Nat.Coprime.dvd_of_dvd_mul_right (k := m) (m := j) (n := h) (by rw [Nat.Coprime, Nat.gcd_comm]; exact hg) hd)
      have := Nat.le_of_dvd (by omega) this
      omega
    have e1 := Nat.div_add_mod (j * h) m
    have l1 := Nat.mod_lt (j * h) m0
    have p1 : 0 < j * h % m := Nat.pos_of_ne_zero fun q => nd (Nat.dvd_of_mod_eq_zero q)
    have l2 : j * h / m < h := by
      rw [Nat.div_lt_iff_lt_mul m0, Nat.mul_comm h m]
      exact Nat.mul_lt_mul_of_pos_right b h0
    have e2 : (m - j) * h = (m - j * h % m) + m * (h - j * h / m - 1) := by
      rw [Nat.sub_mul, Nat.mul_sub, Nat.mul_sub]
      have : m * (j * h / m + 1) ≤ m * h := Nat.mul_le_mul_left _ l2
      rw [Nat.mul_add] at this
      omega
    rw [e2, Nat.add_mul_div_left _ _ m0, Nat.div_eq_of_lt (by omega)]
    omega
  have a1 := key k h1 (by omega)
  have a2 := key (k + 1) (by omega) (by omega)
  rw [show m - 1 - k + 1 = m - k by omega, show m - 1 - k = m - (k + 1) by omega]
  omega
theorem stair_mid {h m : Nat} (hm : h < m) (h0 : 0 < h) (hg : Nat.gcd h m = 1) (f : Nat → Nat) (hf : f = fun k => if (k + 1) * h / m > k * h / m then 98 else 97) : (sq f 1 (m - 2)).reverse = sq f 1 (m - 2) := by
  apply list_ext_get
  · simp
  · intro i hi
    rw [List.length_reverse, sq_len] at hi
    rw [List.getElem?_reverse (by rw [sq_len]; exact hi), sq_len, sq_get _ _ _ _ hi, sq_get _ _ _ _ (by omega), hf]
    have := stair_pal hm h0 hg (1 + i) (by omega) (by omega)
    rw [show 1 + (m - 2 - 1 - i) = m - 1 - (1 + i) by omega]
    congr 1
    simp only [this]
end Rf

namespace Rf
theorem stair_rot {h m : Nat} (h0 : 0 < m) (j : Nat) (hj : j ≤ m) : (stairL h m).drop j ++ (stairL h m).take j = sq (fun k => if (k + 1) * h / m > k * h / m then 98 else 97) j m := by
  unfold stairL
  rw [sq_drop _ _ _ _ hj, sq_take _ _ _ _ hj, Nat.zero_add]
  have e : sq (fun k => if (k + 1) * h / m > k * h / m then 98 else 97) 0 j = sq (fun k => if (k + 1) * h / m > k * h / m then 98 else 97) (j + (m - j)) j := by
    rw [show j + (m - j) = 0 + m by omega, sq_shift]
    apply sq_congr
    intro k _ _
    have a1 : (k + m + 1) * h / m = (k + 1) * h / m + h := by rw [show k + m + 1 = (k + 1) + m by omega, Nat.add_mul (k + 1), Nat.mul_comm m h, Nat.add_mul_div_right _ _ h0]
    have a2 : (k + m) * h / m = k * h / m + h := by rw [Nat.add_mul k, Nat.mul_comm m h, Nat.add_mul_div_right _ _ h0]
    rw [a1, a2]
    simp only [gt_iff_lt, Nat.add_lt_add_iff_right]
  rw [e, ← sq_app]
  congr 1
  omega
theorem stair_least {h m : Nat} (h0 : 0 < m) (hm : h ≤ m) (j : Nat) : ∀ (n k : Nat), (j + k) * h / m = j * h / m + k * h / m → ¬ (sq (fun k => if (k + 1) * h / m > k * h / m then 98 else 97) (j + k) n < sq (fun k => if (k + 1) * h / m > k * h / m then 98 else 97) k n)
  | 0, k, _ => by simp [sq]
  | n + 1, k, he => by
    rw [sq, sq]
    have ih := stair_least h0 hm j n (k + 1)
    obtain ⟨s1, s2⟩ := fl_step h0 hm (j + k)
    obtain ⟨t1, t2⟩ := fl_step h0 hm k
    have sup : j * h / m + (k + 1) * h / m ≤ (j + k + 1) * h / m := by
      rw [Nat.le_div_iff_mul_le h0, Nat.add_mul (j * h / m), show j + k + 1 = j + (k + 1) by omega, Nat.add_mul j]
      exact Nat.add_le_add (Nat.div_mul_le_self _ _) (Nat.div_mul_le_self _ _)
    rw [List.cons_lt_cons_iff]
    by_cases c1 : (j + k + 1) * h / m > (j + k) * h / m
    · by_cases c2 : (k + 1) * h / m > k * h / m
      · rw [if_pos c1, if_pos c2]
        rintro (q | ⟨_, q⟩)
        · exact absurd q (by decide)
        · exact ih (by rw [show j + (k + 1) = j + k + 1 by omega]; omega) q
      · rw [if_pos c1, if_neg c2]
        rintro (q | ⟨q, _⟩)
        · exact absurd q (by decide)
        · exact absurd q (by decide)
    · by_cases c2 : (k + 1) * h / m > k * h / m
      · omega
      · rw [if_neg c1, if_neg c2]
        rintro (q | ⟨_, q⟩)
        · exact absurd q (by decide)
        · exact ih (by rw [show j + (k + 1) = j + k + 1 by omega]; omega) q
theorem stair_least' {h m : Nat} (h0 : 0 < m) (hm : h ≤ m) (j : Nat) (hj : j ≤ m) : ¬ ((stairL h m).drop j ++ (stairL h m).take j < stairL h m) := by
  rw [stair_rot h0 j hj]
  exact stair_least h0 hm j m 0 (by simp)
/-- by the count of b -/
def isSt (w : List Nat) : Bool := Nat.gcd (w.count 98) (w.count 97) == 1 && w == stairL (w.count 98) w.length

theorem bez : ∀ (a b : Nat), ∃ x y : Int, (a : Int) * x + b * y = (Nat.gcd a b : Nat) := by
  intro a b
  induction a, b using Nat.gcd.induction with
  | H0 n => exact ⟨0, 1, by simp⟩
  | H1 m n hm ih =>
    obtain ⟨x, y, e⟩ := ih
    refine ⟨y - (n / m : Nat) * x, x, ?_⟩
    rw [Nat.gcd_rec, ← e]
    have h := Nat.div_add_mod n m
    have h2 : (n : Int) = m * (n / m : Nat) + (n % m : Nat) := by exact_mod_cast h.symm
    generalize (n / m : Nat) = q at *
    generalize (n % m : Nat) = r at *
    rw [h2]
    grind
/-- a cut of a stair word into two: the place is the one -/
theorem cut_one {h m k h1 : Nat} (hg : Nat.gcd h m = 1) (k0 : 0 < k) (hk : k < m) (e1 : h1 = k * h / m) (hle : h1 ≤ h) (g1 : Nat.gcd h1 k = 1) (g2 : Nat.gcd (h - h1) (m - k) = 1)
    (U : ∀ j, j ≤ k → j * h1 / k = j * h / m) (V : ∀ j, j ≤ m - k → j * (h - h1) / (m - k) + h1 = (j + k) * h / m) : k * h % m = 1 := by
  have m0 : 0 < m := by omega
  have ed := Nat.div_add_mod (k * h) m
  rw [← e1] at ed
  have rl := Nat.mod_lt (k * h) m0
  generalize hr : k * h % m = r at *
  rcases Nat.lt_or_ge r 2 with hlt | hge
  · rcases Nat.lt_or_ge r 1 with h0 | h1'
    · exfalso
      have : m ∣ k * h := Nat.dvd_of_mod_eq_zero (by omega)
      have := (Nat.Coprime.dvd_of_dvd_mul_right (k := m) (m := k) (n := h) (by rw [Nat.Coprime, Nat.gcd_comm]; exact hg) this)
      have := Nat.le_of_dvd k0 this
      omega
    · omega
  · exfalso
    -- a point of the triangle
    obtain ⟨x, y, b⟩ := bez h1 k
    rw [g1] at b
    have b : (k : Int) * y = h1 * (-x) + 1 := by grind
    generalize -x = z at b
    have edZ : (k : Int) * h = m * h1 + r := by exact_mod_cast ed.symm
    have r0 : (0 : Int) < r := by omega
    have s0 := Int.emod_nonneg (z * h - y * m) (show (r : Int) ≠ 0 by omega)
    have s1 := Int.emod_lt_of_pos (z * h - y * m) r0
    have sd := Int.mul_ediv_add_emod (z * h - y * m) r
    generalize hq : (z * h - y * m) / (r : Int) = q at *
    generalize hs : (z * h - y * m) % (r : Int) = s at *
    -- r ax = s k + m, r ay = s h1 + h
    have ax : s * k + m = r * (z - q * k) := by grind
    have ay : s * h1 + h = r * (y - q * h1) := by grind
    generalize hX : z - q * k = X at *
    generalize hY : y - q * h1 = Y at *
    have sp : 1 ≤ s := by
      rcases Int.lt_or_eq_of_le s0 with h3 | h3
      · omega
      · exfalso
        rw [← h3] at ax ay
        have d1 : (r : Int) ∣ m := ⟨X, by omega⟩
        have d2 : (r : Int) ∣ h := ⟨Y, by omega⟩
        have := Nat.dvd_gcd (Int.natCast_dvd_natCast.mp d2) (Int.natCast_dvd_natCast.mp d1)
        rw [hg] at this
        have := Nat.le_of_dvd (by decide) this
        omega
    have sk : 0 < s * k := Int.mul_pos (by omega) (by omega)
    have X0 : 0 < X := by
      rcases Int.lt_or_le 0 X with h3 | h3
      · exact h3
      · have := Int.mul_nonpos_of_nonneg_of_nonpos (Int.le_of_lt r0) h3
        omega
    have Y0 : 0 ≤ Y := by
      rcases Int.lt_or_le Y 0 with h3 | h3
      · have := Int.mul_neg_of_pos_of_neg r0 h3
        have := Int.mul_nonneg s0 (show (0 : Int) ≤ h1 by omega)
        omega
      · exact h3
    have f1 : X * h - Y * m = s := by
      have : (r : Int) * (X * h - Y * m) = r * s := by grind
      exact Int.eq_of_mul_eq_mul_left (by omega) this
    have f2 : Y * k - X * h1 = 1 := by
      have : (r : Int) * (Y * k - X * h1) = r * 1 := by grind
      exact Int.eq_of_mul_eq_mul_left (by omega) this
    obtain ⟨u, rfl⟩ := Int.eq_ofNat_of_zero_le (Int.le_of_lt X0)
    obtain ⟨v, rfl⟩ := Int.eq_ofNat_of_zero_le Y0
    have p1 : v ≤ u * h / m := by
      rw [Nat.le_div_iff_mul_le m0]
      have : ((v * m : Nat) : Int) ≤ ((u * h : Nat) : Int) := by push_cast; omega
      omega
    rcases Nat.lt_or_ge k u with hu | hu
    · -- behind the cut
      have f3 : (v - h1 : Int) * (m - k) - (u - k) * (h - h1) = r - s - 1 := by
        have : (r : Int) * ((v - h1 : Int) * (m - k) - (u - k) * (h - h1)) = r * (r - s - 1) := by grind
        exact Int.eq_of_mul_eq_mul_left (by omega) this
      have um : u < m := by
        have t1 : (r : Int) * u < r * m := by
          have t2 : s * (k : Int) ≤ (r - 1) * k := Int.mul_le_mul_of_nonneg_right (by omega) (by omega)
          have t3 : ((r : Int) - 1) * k < (r - 1) * m := Int.mul_lt_mul_of_pos_left (by omega) (by omega)
          have t4 : ((r : Int) - 1) * m = r * m - m := by rw [Int.sub_mul, Int.one_mul]
          omega
        have := Int.lt_of_mul_lt_mul_left t1 (by omega)
        omega
      have hV := V (u - k) (by omega)
      rw [show u - k + k = u by omega] at hV
      have hv1 : h1 ≤ v := by
        have := Nat.zero_le ((u - k) * (h - h1) / (m - k))
        -- v k = u h1 + 1 > k h1
        have t1 : ((v : Int) - h1) * k > 0 := by
          have : ((v : Int) - h1) * k = (u - k) * h1 + 1 := by grind
          have := Int.mul_nonneg (show (0 : Int) ≤ (u : Int) - k by omega) (show (0 : Int) ≤ h1 by omega)
          omega
        have := Int.pos_of_mul_pos_left (b := (k : Int)) t1 (by omega)
        omega
      have f4 : (u - k) * (h - h1) ≤ (v - h1) * (m - k) := by
        have : (((u - k) * (h - h1) : Nat) : Int) ≤ (((v - h1) * (m - k) : Nat) : Int) := by
          rw [Int.natCast_mul, Int.natCast_mul, Int.ofNat_sub (by omega), Int.ofNat_sub (by omega), Int.ofNat_sub (by omega), Int.ofNat_sub (by omega)]
          omega
        omega
      rcases Nat.lt_or_eq_of_le f4 with h5 | h5
      · have : (u - k) * (h - h1) / (m - k) < v - h1 := by rw [Nat.div_lt_iff_lt_mul (by omega)]; exact h5
        omega
      · have d : m - k ∣ (u - k) * (h - h1) := ⟨v - h1, by rw [h5, Nat.mul_comm]⟩
        have := (Nat.Coprime.dvd_of_dvd_mul_right (k := m - k) (m := u - k) (n := h - h1) (by rw [Nat.Coprime, Nat.gcd_comm]; exact g2) d)
        have := Nat.le_of_dvd (by omega) this
        omega
    · have hU := U u hu
      have : u * h1 / k < v := by
        rw [Nat.div_lt_iff_lt_mul k0]
        have : ((u * h1 : Nat) : Int) < ((v * k : Nat) : Int) := by push_cast; omega
        omega
      omega
end Rf

/-! Ps4: words of a and b, turned: stair words and breaks, plain. -/
namespace Rf
def wl (w : List Nat) (k : Nat) : Nat := (w[k % w.length]?).getD 0
def cf (f : Nat → Nat) (k n : Nat) : Nat := (sq f k n).count 98
theorem wl_per (w : List Nat) (k : Nat) : wl w (k + w.length) = wl w k := by unfold wl; rw [Nat.add_mod_right]
theorem w_sq (w : List Nat) : w = sq (wl w) 0 w.length := by
  apply list_ext_get
  · rw [sq_len]
  · intro i hi
    rw [sq_get _ _ _ _ hi, Nat.zero_add]
    unfold wl
    rw [Nat.mod_eq_of_lt hi, List.getElem?_eq_getElem hi]
    rfl
theorem sq_per {f : Nat → Nat} {m : Nat} (hf : ∀ k, f (k + m) = f k) (k n : Nat) : sq f (k + m) n = sq f k n := by
  rw [sq_shift]
  have := sq_shift (fun i => f (i + m)) 0 k n
  rw [Nat.add_zero] at this
  apply sq_congr
  intro i _ _
  exact hf i
theorem ww_sq (w : List Nat) : w ++ w = sq (wl w) 0 (w.length + w.length) := by
  rw [sq_app]
  have h := sq_per (wl_per w) 0 w.length
  rw [h, ← w_sq]
theorem rot_sq (w : List Nat) (j : Nat) (hj : j ≤ w.length) : w.drop j ++ w.take j = sq (wl w) j w.length := by
  have h1 : w.drop j = sq (wl w) j (w.length - j) := by
    have := sq_drop (wl w) 0 w.length j hj
    rw [← w_sq, Nat.zero_add] at this
    exact this
  have h2 : w.take j = sq (wl w) (j + (w.length - j)) j := by
    have := sq_take (wl w) 0 w.length j hj
    rw [← w_sq] at this
    rw [this, show j + (w.length - j) = 0 + w.length by omega, sq_per (wl_per w)]
  rw [h1, h2, ← sq_app]
  congr 1
  omega
theorem win_sq (w : List Nat) (k n : Nat) (h : k + n ≤ w.length + w.length) : ((w ++ w).drop k).take n = sq (wl w) k n := by
  rw [ww_sq, sq_drop _ _ _ _ (by omega), sq_take _ _ _ _ (by omega), Nat.zero_add]
theorem cf_add (f : Nat → Nat) (k n n' : Nat) : cf f k (n + n') = cf f k n + cf f (k + n) n' := by
  unfold cf
  rw [sq_app, List.count_append]
theorem cf_le (f : Nat → Nat) (k n : Nat) : cf f k n ≤ n := by
  unfold cf
  have := List.count_le_length (a := 98) (l := sq f k n)
  rwa [sq_len] at this
theorem cf_per {f : Nat → Nat} {m : Nat} (hf : ∀ k, f (k + m) = f k) (k n : Nat) : cf f (k + m) n = cf f k n := by
  unfold cf
  rw [sq_per hf]
theorem cf_round {f : Nat → Nat} {m : Nat} (hf : ∀ k, f (k + m) = f k) (n : Nat) : cf f n m = cf f 0 m := by
  have h1 := cf_add f 0 n m
  have h2 := cf_add f 0 m n
  rw [Nat.add_comm m n] at h2
  have h3 := cf_per hf 0 n
  rw [Nat.zero_add] at *
  omega
def sumN (f : Nat → Nat) : Nat → Nat
  | 0 => 0
  | m + 1 => sumN f m + f m
theorem sumN_add (f g : Nat → Nat) : ∀ m, sumN (fun k => f k + g k) m = sumN f m + sumN g m
  | 0 => rfl
  | m + 1 => by rw [sumN, sumN, sumN, sumN_add f g m]; omega
theorem sumN_one (f : Nat → Nat) (n : Nat) : ∀ m, sumN (fun k => cf f (k + n) 1) m = cf f n m
  | 0 => rfl
  | m + 1 => by
    rw [sumN, sumN_one f n m, cf_add f n m 1, Nat.add_comm m n]
theorem sumN_cf {f : Nat → Nat} {m : Nat} (hf : ∀ k, f (k + m) = f k) : ∀ n, sumN (fun k => cf f k n) m = n * cf f 0 m
  | 0 => by
    rw [Nat.zero_mul]
    have : ∀ m, sumN (fun k => cf f k 0) m = 0 := fun m => by
      induction m with
      | zero => rfl
      | succ m ih => rw [sumN, ih]; rfl
    exact this m
  | n + 1 => by
    have h1 : sumN (fun k => cf f k (n + 1)) m = sumN (fun k => cf f k n + cf f (k + n) 1) m := by
      congr 1
      funext k
      exact cf_add f k n 1
    rw [h1, sumN_add, sumN_cf hf n, sumN_one, cf_round hf n, Nat.succ_mul]
theorem sumN_le {f : Nat → Nat} {c : Nat} : ∀ m, (∀ k, k < m → f k ≤ c) → sumN f m ≤ m * c
  | 0, _ => by simp [sumN]
  | m + 1, h => by
    rw [sumN, Nat.succ_mul]
    have := sumN_le m fun k hk => h k (by omega)
    have := h m (by omega)
    omega
theorem sumN_lt {f : Nat → Nat} {c : Nat} : ∀ m, (∀ k, k < m → f k ≤ c) → (∃ k, k < m ∧ f k < c) → sumN f m < m * c
  | 0, _, ⟨k, hk, _⟩ => absurd hk (Nat.not_lt_zero _)
  | m + 1, h, ⟨k, hk, hl⟩ => by
    rw [sumN, Nat.succ_mul]
    have h1 := h m (by omega)
    by_cases hkm : k = m
    · subst hkm
      have := sumN_le k fun j hj => h j (by omega)
      omega
    · have := sumN_lt m (fun j hj => h j (by omega)) ⟨k, by omega, hl⟩
      omega
theorem max_ex (D : Nat → Int) : ∀ m, 0 < m → ∃ k0, k0 < m ∧ ∀ k, k < m → D k ≤ D k0
  | 0, h => absurd h (Nat.lt_irrefl _)
  | 1, _ => ⟨0, by omega, fun k hk => by have : k = 0 := by omega
                                         subst this; exact Int.le_refl _⟩
  | m + 2, _ => by
    obtain ⟨k0, h1, h2⟩ := max_ex D (m + 1) (by omega)
    by_cases hc : D (m + 1) ≤ D k0
    · refine ⟨k0, by omega, fun k hk => ?_⟩
      by_cases hkm : k = m + 1
      · subst hkm; exact hc
      · exact h2 k (by omega)
    · refine ⟨m + 1, by omega, fun k hk => ?_⟩
      by_cases hkm : k = m + 1
      · subst hkm; exact Int.le_refl _
      · exact Int.le_trans (h2 k (by omega)) (by omega)
/-- the letters of a stair word, round and round -/
def st (h m : Nat) (k : Nat) : Nat := if (k + 1) * h / m > k * h / m then 98 else 97
theorem st_per {h m : Nat} (h0 : 0 < m) (k : Nat) : st h m (k + m) = st h m k := by
  unfold st
  have a1 : (k + m + 1) * h / m = (k + 1) * h / m + h := by rw [show k + m + 1 = (k + 1) + m by omega, Nat.add_mul (k + 1), Nat.mul_comm m h, Nat.add_mul_div_right _ _ h0]
  have a2 : (k + m) * h / m = k * h / m + h := by rw [Nat.add_mul k, Nat.mul_comm m h, Nat.add_mul_div_right _ _ h0]
  rw [a1, a2]
  simp only [gt_iff_lt, Nat.add_lt_add_iff_right]
/-- counts that differ by one at most: a turned stair word -/
theorem balanced_turn {f : Nat → Nat} {m : Nat} (m0 : 0 < m) (hf : ∀ k, f (k + m) = f k) (hab : ∀ k, f k = 97 ∨ f k = 98)
    (hb : ∀ n k k', n < m → k < m → k' < m → cf f k n ≤ cf f k' n + 1) : ∃ k0, k0 < m ∧ ∀ i, f (k0 + i) = st (cf f 0 m) m i := by
  obtain ⟨k0, h1, h2⟩ := max_ex (fun k => (m : Int) * (cf f 0 k : Nat) - k * (cf f 0 m : Nat)) m m0
  generalize hh : cf f 0 m = h at *
  have hD : ∀ k, k < m + m → (m : Int) * (cf f 0 k : Nat) - k * h ≤ (m : Int) * (cf f 0 k0 : Nat) - k0 * h := fun k hk => by
    by_cases hkm : k < m
    · exact h2 k hkm
    · obtain ⟨j, rfl⟩ : ∃ j, k = j + m := ⟨k - m, by omega⟩
      have h3 := h2 j (by omega)
      have h4 := cf_add f 0 m j
      rw [Nat.zero_add] at h4
      have h5 := cf_per hf 0 j
      rw [Nat.zero_add] at h5
      rw [hh, h5, Nat.add_comm m j] at h4
      rw [h4]
      push_cast
      rw [Int.mul_add, Int.add_mul]
      omega
  -- the counts from k0
  have up : ∀ n, n ≤ m → cf f k0 n ≤ n * h / m := fun n hn => by
    rcases Nat.lt_or_eq_of_le hn with hlt | rfl
    · rw [Nat.le_div_iff_mul_le m0]
      have h3 := hD (k0 + n) (by omega)
      have h4 := cf_add f 0 k0 n
      rw [Nat.zero_add] at h4
      rw [h4] at h3
      push_cast at h3
      rw [Int.mul_add, Int.add_mul] at h3
      have h5 : (m : Int) * (cf f k0 n : Nat) ≤ n * h := by omega
      rw [Nat.mul_comm]
      exact_mod_cast h5
    · rw [Nat.mul_div_cancel_left _ m0, cf_round hf, hh]
      exact Nat.le_refl _
  have low : ∀ n, n ≤ m → n * h / m ≤ cf f k0 n := fun n hn => by
    rcases Nat.lt_or_eq_of_le hn with hlt | rfl
    · rcases Nat.lt_or_ge (cf f k0 n) (n * h / m) with hc | hc
      · exfalso
        have h3 := sumN_cf hf n
        rw [hh] at h3
        have h4 := sumN_lt (f := fun k => cf f k n) (c := n * h / m) m (fun k hk => by have := hb n k k0 hlt hk h1; omega) ⟨k0, h1, hc⟩
        rw [h3] at h4
        have := Nat.div_mul_le_self (n * h) m
        rw [Nat.mul_comm m] at h4
        omega
      · exact hc
    · rw [Nat.mul_div_cancel_left _ m0, cf_round hf, hh]
      exact Nat.le_refl _
  have eq : ∀ n, n ≤ m → cf f k0 n = n * h / m := fun n hn => Nat.le_antisymm (up n hn) (low n hn)
  have small : ∀ i, i < m → f (k0 + i) = st h m i := fun i hi => by
    have h3 := cf_add f k0 i 1
    rw [eq i (by omega), eq (i + 1) (by omega)] at h3
    unfold st
    rcases hab (k0 + i) with hl | hl
    · have h4 : cf f (k0 + i) 1 = 0 := by unfold cf; simp [sq, hl]
      rw [hl, if_neg (by omega)]
    · have h4 : cf f (k0 + i) 1 = 1 := by unfold cf; simp [sq, hl]
      rw [hl, if_pos (by omega)]
  refine ⟨k0, h1, fun i => ?_⟩
  have pf : ∀ q i, f (i + q * m) = f i := fun q => by
    induction q with
    | zero => intro i; simp
    | succ q ih => intro i; rw [Nat.succ_mul, ← Nat.add_assoc, hf, ih]
  have ps : ∀ q i, st h m (i + q * m) = st h m i := fun q => by
    induction q with
    | zero => intro i; simp
    | succ q ih => intro i; rw [Nat.succ_mul, ← Nat.add_assoc, st_per m0, ih]
  have h3 := Nat.mod_add_div i m
  rw [Nat.mul_comm] at h3
  have h4 := small (i % m) (Nat.mod_lt _ m0)
  rw [← h3, ps, ← Nat.add_assoc, pf]
  exact h4
/-- a turned stair word has counts that differ by one at most -/
theorem turn_balanced {f : Nat → Nat} {h m : Nat} (m0 : 0 < m) (hm : h ≤ m) (k0 : Nat) (hk0 : k0 < m) (hf : ∀ k, f (k + m) = f k) (hs : ∀ i, f (k0 + i) = st h m i) (n k k' : Nat) (hk : k < m) (hk' : k' < m) : cf f k n ≤ cf f k' n + 1 := by
  have key : ∀ k, k < m → n * h / m ≤ cf f k n ∧ cf f k n ≤ n * h / m + 1 := fun k hk => by
    have e : sq f k n = sq (st h m) (k + m - k0) n := by
      obtain ⟨j, hj⟩ : ∃ j, j = k + m - k0 := ⟨_, rfl⟩
      have hj2 : k + m = j + k0 := by omega
      rw [← hj, ← sq_per hf k n, hj2, sq_shift]
      apply sq_congr
      intro i _ _
      rw [Nat.add_comm i k0]
      exact hs i
    have h1 : cf f k n + (k + m - k0) * h / m = (k + m - k0 + n) * h / m := by
      unfold cf
      rw [e]
      exact cnt_sq m0 hm n (k + m - k0)
    generalize k + m - k0 = j at *
    have h2 : j * h / m + n * h / m ≤ (j + n) * h / m := by
      rw [Nat.le_div_iff_mul_le m0, Nat.add_mul (j * h / m), Nat.add_mul j]
      exact Nat.add_le_add (Nat.div_mul_le_self _ _) (Nat.div_mul_le_self _ _)
    have h3 : (j + n) * h / m < j * h / m + n * h / m + 2 := by
      rw [Nat.div_lt_iff_lt_mul m0, Nat.add_mul j]
      have e1 := Nat.div_add_mod (j * h) m
      have e2 := Nat.div_add_mod (n * h) m
      have l1 := Nat.mod_lt (j * h) m0
      have l2 := Nat.mod_lt (n * h) m0
      rw [Nat.add_mul, Nat.add_mul, Nat.mul_comm (j * h / m), Nat.mul_comm (n * h / m)]
      omega
    omega
  have := key k hk
  have := key k' hk'
  omega
end Rf

/-! Ps5: a word is no several of a shorter one: stair word or break, plain. -/
namespace Rf
def rots (w : List Nat) : List (List Nat) := (List.range' 0 w.length).map fun j => w.drop j ++ w.take j
def leastN : List (List Nat) → List Nat
  | [] => []
  | x :: xs => xs.foldl (fun m x => if x < m then x else m) x
theorem least_fold : ∀ (xs : List (List Nat)) (x : List Nat), (xs.foldl (fun m x => if x < m then x else m) x ∈ x :: xs) ∧ ¬ x < xs.foldl (fun m x => if x < m then x else m) x ∧ ∀ y ∈ xs, ¬ y < xs.foldl (fun m x => if x < m then x else m) x
  | [], x => ⟨List.mem_cons_self .., List.lt_irrefl _, fun y h => nomatch h⟩
  | y :: xs, x => by
    rw [List.foldl_cons]
    obtain ⟨h1, h2, h3⟩ := least_fold xs (if y < x then y else x)
    generalize hm : xs.foldl (fun m x => if x < m then x else m) (if y < x then y else x) = m at *
    by_cases hc : y < x
    · rw [if_pos hc] at h1 h2
      refine ⟨List.mem_cons_of_mem _ h1, ?_, fun z hz => ?_⟩
      · intro hlt
        exact h2 (List.not_le.mp fun hle => absurd (List.not_lt.mpr (List.le_trans hle (List.not_lt.mp (List.lt_asymm hc)))) (fun hh => hh hlt))
      · rcases List.mem_cons.mp hz with rfl | hz
        · exact h2
        · exact h3 z hz
    · rw [if_neg hc] at h1 h2
      refine ⟨?_, h2, fun z hz => ?_⟩
      · rcases List.mem_cons.mp h1 with h | h
        · rw [h]; exact List.mem_cons_self ..
        · exact List.mem_cons_of_mem _ (List.mem_cons_of_mem _ h)
      · rcases List.mem_cons.mp hz with rfl | hz
        · exact List.not_lt.mpr (List.le_trans (List.not_lt.mp h2) (List.not_lt.mp hc))
        · exact h3 z hz
theorem least_spec {l : List (List Nat)} (h : l ≠ []) : leastN l ∈ l ∧ ∀ y ∈ l, ¬ y < leastN l := by
  cases l with
  | nil => exact absurd rfl h
  | cons x xs =>
    obtain ⟨h1, h2, h3⟩ := least_fold xs x
    refine ⟨h1, fun y hy => ?_⟩
    rcases List.mem_cons.mp hy with rfl | hy
    · exact h2
    · exact h3 y hy
theorem least_uniq {l : List (List Nat)} {x : List Nat} (hx : x ∈ l) (h : ∀ y ∈ l, ¬ y < x) : leastN l = x := by
  obtain ⟨h1, h2⟩ := least_spec (List.ne_nil_of_mem hx)
  exact List.le_antisymm (List.not_lt.mp (h2 x hx)) (List.not_lt.mp (h _ h1))
def stB (w : List Nat) : Bool := decide (Nat.gcd (w.count 98) (w.count 97) = 1) && decide (leastN (rots w) = stairL (w.count 98) w.length)
def balB (w : List Nat) (n : Nat) : Prop := ∀ k k', k < w.length → k' < w.length → cf (wl w) k n ≤ cf (wl w) k' n + 1
theorem rots_mem {w x : List Nat} : x ∈ rots w ↔ ∃ j, j < w.length ∧ x = sq (wl w) j w.length := by
  unfold rots
  rw [List.mem_map]
  constructor
  · rintro ⟨j, hj, rfl⟩
    rw [List.mem_range'_1] at hj
    exact ⟨j, by omega, rot_sq w j (by omega)⟩
  · rintro ⟨j, hj, rfl⟩
    exact ⟨j, by rw [List.mem_range'_1]; omega, rot_sq w j (by omega)⟩
theorem stL_sq (h m : Nat) : stairL h m = sq (st h m) 0 m := rfl
theorem per_mul {f : Nat → Nat} {m : Nat} (hf : ∀ k, f (k + m) = f k) : ∀ q k, f (k + q * m) = f k
  | 0, k => by simp
  | q + 1, k => by rw [Nat.succ_mul, ← Nat.add_assoc, hf, per_mul hf q]
theorem sq_inj {f g : Nat → Nat} {i j n : Nat} (h : sq f i n = sq g j n) (k : Nat) (hk : k < n) : f (i + k) = g (j + k) := by
  have h1 := sq_get f i n k hk
  have h2 := sq_get g j n k hk
  rw [h, h2] at h1
  injection h1 with h1
  exact h1.symm
theorem wl_ab {w : List Nat} (h0 : w ≠ []) (hab : ∀ x ∈ w, x = 97 ∨ x = 98) (k : Nat) : wl w k = 97 ∨ wl w k = 98 := by
  have hm : 0 < w.length := List.length_pos_iff.mpr h0
  unfold wl
  rw [List.getElem?_eq_getElem (Nat.mod_lt _ hm)]
  exact hab _ (List.getElem_mem _)
theorem cf_98 (w : List Nat) : cf (wl w) 0 w.length = w.count 98 := by
  unfold cf
  rw [← w_sq]
theorem cnt_ab (w : List Nat) (hw : ∀ x ∈ w, x = 97 ∨ x = 98) : w.count 98 + w.count 97 = w.length := by
  induction w with
  | nil => rfl
  | cons x w ih =>
    have ih := ih fun y hy => hw y (List.mem_cons_of_mem _ hy)
    rcases hw x (List.mem_cons_self ..) with rfl | rfl
    · rw [List.count_cons_self, List.count_cons_of_ne (by decide), List.length_cons]; omega
    · rw [List.count_cons_self, List.count_cons_of_ne (by decide), List.length_cons]; omega
/-- EXACTLY ONE of a slope and a break -/
theorem st_bal {w : List Nat} (h0 : w ≠ []) (hab : ∀ x ∈ w, x = 97 ∨ x = 98) (h : stB w = true) (n : Nat) : balB w n := by
  have hm : 0 < w.length := List.length_pos_iff.mpr h0
  unfold stB at h
  simp only [Bool.and_eq_true, decide_eq_true_eq] at h
  have hr : rots w ≠ [] := fun e => by
    have := congrArg List.length e
    unfold rots at this
    rw [List.length_map, List.length_range'] at this
    simp at this
    exact h0 this
  have h1 := (least_spec hr).1
  rw [h.2, rots_mem] at h1
  obtain ⟨k0, hk0, e⟩ := h1
  rw [stL_sq] at e
  have hs : ∀ i, wl w (k0 + i) = st (w.count 98) w.length i := fun i => by
    have h3 := Nat.mod_add_div i w.length
    rw [Nat.mul_comm] at h3
    have h4 := sq_inj e (i % w.length) (Nat.mod_lt _ hm)
    rw [Nat.zero_add] at h4
    rw [← h3, per_mul (st_per hm), ← Nat.add_assoc, per_mul (wl_per w)]
    exact h4.symm
  intro k k' hk hk'
  exact turn_balanced hm List.count_le_length k0 hk0 (wl_per w) hs n k k' hk hk'
theorem bal_st {w : List Nat} (h0 : w ≠ []) (hab : ∀ x ∈ w, x = 97 ∨ x = 98) (hlone : ∀ j, 1 ≤ j → j < w.length → w.drop j ++ w.take j ≠ w) (h : ∀ n, n < w.length → balB w n) : stB w = true := by
  have hm : 0 < w.length := List.length_pos_iff.mpr h0
  obtain ⟨k0, hk0, hs⟩ := balanced_turn hm (wl_per w) (wl_ab h0 hab) fun n k k' hn hk hk' => h n hn k k' hk hk'
  rw [cf_98] at hs
  have hcnt := cnt_ab w hab
  have hgg : Nat.gcd (w.count 98) (w.count 97) = Nat.gcd (w.count 98) w.length := by
    rw [← hcnt, Nat.gcd_self_add_right]
  have hg : Nat.gcd (w.count 98) w.length = 1 := by
    rcases Nat.lt_or_ge 1 (Nat.gcd (w.count 98) w.length) with hlt | hge
    · exfalso
      have d1 := Nat.gcd_dvd_left (w.count 98) w.length
      have d2 := Nat.gcd_dvd_right (w.count 98) w.length
      generalize Nat.gcd (w.count 98) w.length = g at *
      obtain ⟨b, hb⟩ := d1
      obtain ⟨d, hd⟩ := d2
      have dp : 0 < d := by
        rcases Nat.eq_zero_or_pos d with e | e
        · rw [e] at hd; omega
        · exact e
      have dl : d < w.length := by
        rw [hd]
        have := Nat.mul_lt_mul_of_pos_right hlt dp
        omega
      have sp : ∀ i, st (w.count 98) w.length (i + d) = st (w.count 98) w.length i := fun i => by
        unfold st
        have e1 : ∀ j, (j + d) * w.count 98 / w.length = j * w.count 98 / w.length + b := fun j => by
          rw [Nat.add_mul]
          have : d * w.count 98 = b * w.length := by rw [hb, hd]; grind
          rw [this, Nat.add_mul_div_right _ _ hm]
        rw [show i + d + 1 = (i + 1) + d by omega, e1, e1]
        simp only [gt_iff_lt, Nat.add_lt_add_iff_right]
      apply hlone d dp dl
      rw [rot_sq w d (by omega)]
      conv => rhs; rw [w_sq w]
      have := sq_shift (wl w) d 0 w.length
      rw [Nat.zero_add] at this
      rw [this]
      apply sq_congr
      intro i _ _
      -- i = k0 + something, round
      have q1 := per_mul (wl_per w) k0 (i + d)
      have q2 := per_mul (wl_per w) k0 i
      rw [← q1, ← q2]
      have hge : k0 ≤ k0 * w.length := Nat.le_mul_of_pos_right _ hm
      obtain ⟨c, hc⟩ : ∃ c, i + k0 * w.length = k0 + c := ⟨i + k0 * w.length - k0, by omega⟩
      rw [show i + d + k0 * w.length = k0 + (c + d) by omega, hc, hs, hs, sp]
    · have : 0 < Nat.gcd (w.count 98) w.length := Nat.gcd_pos_of_pos_right _ hm
      omega
  unfold stB
  simp only [hgg, hg, decide_true, Bool.true_and, decide_eq_true_eq]
  have hst : sq (wl w) k0 w.length = stairL (w.count 98) w.length := by
    rw [stL_sq]
    have := sq_shift (wl w) k0 0 w.length
    rw [Nat.zero_add] at this
    rw [this]
    apply sq_congr
    intro i _ _
    rw [Nat.add_comm]
    exact hs i
  apply least_uniq
  · rw [rots_mem]
    exact ⟨k0, hk0, hst.symm⟩
  · intro y hy
    rw [rots_mem] at hy
    obtain ⟨j, hj, rfl⟩ := hy
    have e : sq (wl w) j w.length = sq (st (w.count 98) w.length) (j + w.length - k0 + 0) w.length := by
      obtain ⟨c, hc⟩ : ∃ c, c = j + w.length - k0 := ⟨_, rfl⟩
      have hc2 : j + w.length = c + k0 := by omega
      rw [← hc, ← sq_per (wl_per w) j w.length, hc2, sq_shift]
      apply sq_congr
      intro i _ _
      rw [Nat.add_comm]
      exact hs i
    rw [e, stL_sq]
    exact stair_least hm List.count_le_length (j + w.length - k0) w.length 0 (by simp)
/-! ### breaks -/
def mxI : List Int → Int
  | [] => 0
  | n :: ns => ns.foldl max n
def mnI : List Int → Int
  | [] => 0
  | n :: ns => ns.foldl min n
theorem foldl_max : ∀ (ns : List Int) (n : Int), (ns.foldl max n ∈ n :: ns) ∧ ∀ x ∈ n :: ns, x ≤ ns.foldl max n
  | [], n => ⟨List.mem_cons_self .., fun x hx => by simp at hx; subst hx; exact Int.le_refl _⟩
  | m :: ns, n => by
    rw [List.foldl_cons]
    obtain ⟨h1, h2⟩ := foldl_max ns (max n m)
    generalize ns.foldl max (max n m) = r at *
    refine ⟨?_, fun x hx => ?_⟩
    · rcases List.mem_cons.mp h1 with h | h
      · rcases Int.le_total n m with hle | hle
        · rw [h, Int.max_eq_right hle]; simp
        · rw [h, Int.max_eq_left hle]; simp
      · simp [h]
    · have h3 := h2 (max n m) (List.mem_cons_self ..)
      rcases List.mem_cons.mp hx with rfl | hx
      · omega
      · rcases List.mem_cons.mp hx with rfl | hx
        · omega
        · exact h2 x (List.mem_cons_of_mem _ hx)
theorem foldl_min : ∀ (ns : List Int) (n : Int), (ns.foldl min n ∈ n :: ns) ∧ ∀ x ∈ n :: ns, ns.foldl min n ≤ x
  | [], n => ⟨List.mem_cons_self .., fun x hx => by simp at hx; subst hx; exact Int.le_refl _⟩
  | m :: ns, n => by
    rw [List.foldl_cons]
    obtain ⟨h1, h2⟩ := foldl_min ns (min n m)
    generalize ns.foldl min (min n m) = r at *
    refine ⟨?_, fun x hx => ?_⟩
    · rcases List.mem_cons.mp h1 with h | h
      · rcases Int.le_total n m with hle | hle
        · rw [h, Int.min_eq_left hle]; simp
        · rw [h, Int.min_eq_right hle]; simp
      · simp [h]
    · have h3 := h2 (min n m) (List.mem_cons_self ..)
      rcases List.mem_cons.mp hx with rfl | hx
      · omega
      · rcases List.mem_cons.mp hx with rfl | hx
        · omega
        · exact h2 x (List.mem_cons_of_mem _ hx)
theorem mxI_spec {l : List Int} (h : l ≠ []) : mxI l ∈ l ∧ ∀ x ∈ l, x ≤ mxI l := by
  cases l with
  | nil => exact absurd rfl h
  | cons n ns => exact foldl_max ns n
theorem mnI_spec {l : List Int} (h : l ≠ []) : mnI l ∈ l ∧ ∀ x ∈ l, mnI l ≤ x := by
  cases l with
  | nil => exact absurd rfl h
  | cons n ns => exact foldl_min ns n
def cl (w : List Nat) (n : Nat) : List Int := (List.range' 0 w.length).map fun k => ((cf (wl w) k n : Nat) : Int)
def hitB (w : List Nat) (n : Nat) : Bool := decide (1 < mxI (cl w n) - mnI (cl w n))
def breakN (w : List Nat) : Option Nat := (List.range' 1 (w.length - 1)).find? (hitB w)
def ixI (l : List Int) (v : Int) : Nat := (l.findIdx? fun y => y == v).getD 0
theorem ixI_spec {l : List Int} {v : Int} (h : v ∈ l) : (l.findIdx? fun y => y == v) = some (ixI l v) ∧ ixI l v < l.length ∧ l[ixI l v]? = some v := by
  unfold ixI
  cases e : l.findIdx? fun y => y == v with
  | none =>
    rw [List.findIdx?_eq_none_iff] at e
    have := e v h
    simp at this
  | some i =>
    rw [List.findIdx?_eq_some_iff_getElem] at e
    obtain ⟨hi, h1, _⟩ := e
    refine ⟨rfl, hi, ?_⟩
    simp only [Option.getD_some]
    rw [List.getElem?_eq_getElem hi]
    simpa using h1
theorem cl_ne {w : List Nat} (h0 : w ≠ []) (n : Nat) : cl w n ≠ [] := fun e => by
  have := congrArg List.length e
  unfold cl at this
  rw [List.length_map, List.length_range'] at this
  simp at this
  exact h0 this
theorem cl_mem {w : List Nat} {n : Nat} {x : Int} : x ∈ cl w n ↔ ∃ k, k < w.length ∧ x = (cf (wl w) k n : Nat) := by
  unfold cl
  rw [List.mem_map]
  constructor
  · rintro ⟨k, hk, rfl⟩
    rw [List.mem_range'_1] at hk
    exact ⟨k, by omega, rfl⟩
  · rintro ⟨k, hk, rfl⟩
    exact ⟨k, by rw [List.mem_range'_1]; omega, rfl⟩
theorem hit_bal {w : List Nat} (h0 : w ≠ []) (n : Nat) : hitB w n = false ↔ balB w n := by
  obtain ⟨m1, m2⟩ := mxI_spec (cl_ne h0 n)
  obtain ⟨n1, n2⟩ := mnI_spec (cl_ne h0 n)
  unfold hitB balB
  rw [decide_eq_false_iff_not]
  constructor
  · intro h k k' hk hk'
    have a := m2 _ (cl_mem.mpr ⟨k, hk, rfl⟩)
    have b := n2 _ (cl_mem.mpr ⟨k', hk', rfl⟩)
    omega
  · intro h
    obtain ⟨k, hk, e1⟩ := cl_mem.mp m1
    obtain ⟨k', hk', e2⟩ := cl_mem.mp n1
    have := h k k' hk hk'
    rw [e1, e2]
    omega
theorem main_law {w : List Nat} (h0 : w ≠ []) (hab : ∀ x ∈ w, x = 97 ∨ x = 98) (hlone : ∀ j, 1 ≤ j → j < w.length → w.drop j ++ w.take j ≠ w) : stB w = true ↔ breakN w = none := by
  unfold breakN
  rw [List.find?_eq_none]
  constructor
  · intro h n hn
    have := (hit_bal h0 n).mpr (st_bal h0 hab h n)
    rw [this]
    exact Bool.false_ne_true
  · intro h
    apply bal_st h0 hab hlone
    intro n hn
    rcases Nat.eq_zero_or_pos n with rfl | hp
    · intro k k' _ _
      have e1 : cf (wl w) k 0 = 0 := rfl
      omega
    · have := h n (by rw [List.mem_range'_1]; omega)
      exact (hit_bal h0 n).mp (by simpa using this)
end Rf

/-! Ps6: rows that come round: the shortest, the least turn, plain. -/
namespace Rf
/-- turning by k fixes it -/
def fixB (r : List Nat) (k : Nat) : Bool := r.drop k ++ r.take k == r
/-- the law's: the least such k -/
def perN (r : List Nat) : Nat := (((List.range' 1 r.length).filter (fixB r)).head?).getD 0
def onceL (r : List Nat) : List Nat := r.take (perN r)
/-- the program's -/
def rptB (r : List Nat) (d : Nat) : Bool := decide (r.length % d = 0) && (List.replicate (r.length / d) (r.take d)).flatten == r
def onceP (r : List Nat) : List Nat :=
  match (List.range' 1 (r.length - 1)).find? (rptB r) with
  | some d => r.take d
  | none => r
theorem fix_iff {r : List Nat} {k : Nat} (hk : k ≤ r.length) (h0 : r ≠ []) : fixB r k = true ↔ ∀ i, wl r (i + k) = wl r i := by
  have hm : 0 < r.length := List.length_pos_iff.mpr h0
  unfold fixB
  rw [beq_iff_eq, rot_sq r k hk]
  constructor
  · intro h i
    have e : sq (wl r) k r.length = sq (wl r) 0 r.length := by rw [h, ← w_sq]
    have h1 := sq_inj e (i % r.length) (Nat.mod_lt _ hm)
    rw [Nat.zero_add] at h1
    have h3 := Nat.mod_add_div i r.length
    rw [Nat.mul_comm] at h3
    have q1 := per_mul (wl_per r) (i / r.length) (i % r.length)
    have q2 := per_mul (wl_per r) (i / r.length) (i % r.length + k)
    rw [h3] at q1
    rw [Nat.add_right_comm, h3] at q2
    rw [q1, q2, Nat.add_comm, h1]
  · intro h
    conv => rhs; rw [w_sq r]
    have := sq_shift (wl r) k 0 r.length
    rw [Nat.zero_add] at this
    rw [this]
    apply sq_congr
    intro i _ _
    exact h i
theorem per_ex {r : List Nat} (h0 : r ≠ []) : ∃ p, perN r = p ∧ 1 ≤ p ∧ p ≤ r.length ∧ fixB r p = true ∧ ∀ k, 1 ≤ k → k < p → fixB r k = false := by
  have hm : 0 < r.length := List.length_pos_iff.mpr h0
  have hlast : fixB r r.length = true := by
    unfold fixB
    rw [List.drop_of_length_le (Nat.le_refl _), List.take_of_length_le (Nat.le_refl _)]
    simp
  unfold perN
  have key : ∀ (n lo : Nat), (∃ k, lo ≤ k ∧ k < lo + n ∧ fixB r k = true) → ∃ p l, (List.range' lo n).filter (fixB r) = p :: l ∧ lo ≤ p ∧ p < lo + n ∧ fixB r p = true ∧ ∀ k, lo ≤ k → k < p → fixB r k = false := fun n => by
    induction n with
    | zero => rintro lo ⟨k, h1, h2, _⟩; omega
    | succ n ih =>
      rintro lo ⟨k, h1, h2, h3⟩
      rw [List.range'_succ]
      by_cases hlo : fixB r lo = true
      · rw [List.filter_cons_of_pos hlo]
        exact ⟨lo, _, rfl, Nat.le_refl _, by omega, hlo, fun k h4 h5 => by omega⟩
      · rw [List.filter_cons_of_neg hlo]
        have hne : k ≠ lo := fun e => hlo (e ▸ h3)
        obtain ⟨p, l, e, h4, h5, h6, h7⟩ := ih (lo + 1) ⟨k, by omega, by omega, h3⟩
        refine ⟨p, l, e, by omega, by omega, h6, fun j h8 h9 => ?_⟩
        by_cases hj : j = lo
        · subst hj; simpa using hlo
        · exact h7 j (by omega) h9
  obtain ⟨p, l, e, h1, h2, h3, h4⟩ := key r.length 1 ⟨r.length, by omega, by omega, hlast⟩
  rw [e]
  exact ⟨p, rfl, h1, by omega, h3, h4⟩
/-- the least period of a function, a period of it divides every other -/
theorem per_dvd {r : List Nat} (h0 : r ≠ []) {q : Nat} (hq : ∀ i, wl r (i + q) = wl r i) : perN r ∣ q := by
  obtain ⟨p, e, h1, h2, h3, h4⟩ := per_ex h0
  rw [e]
  have hp := (fix_iff h2 h0).mp h3
  have hm := Nat.div_add_mod q p
  have hr : ∀ i, wl r (i + q % p) = wl r i := fun i => by
    have h5 := per_mul hp (q / p) (i + q % p)
    rw [← h5, Nat.mul_comm, Nat.add_assoc, Nat.add_comm (q % p), hm, hq]
  rcases Nat.eq_zero_or_pos (q % p) with hz | hz
  · exact Nat.dvd_of_mod_eq_zero hz
  · have hlt := Nat.mod_lt q (show 0 < p by omega)
    have := (fix_iff (k := q % p) (by omega) h0).mpr hr
    rw [h4 _ hz hlt] at this
    cases this
theorem sq_rep (f : Nat → Nat) (d : Nat) (hd : ∀ i, f (i + d) = f i) : ∀ n, sq f 0 (n * d) = (List.replicate n (sq f 0 d)).flatten
  | 0 => by simp [sq]
  | n + 1 => by
    rw [Nat.succ_mul, Nat.add_comm, sq_app, List.replicate_succ, List.flatten_cons, ← sq_rep f d hd n, sq_per hd]
theorem rep_iff {r : List Nat} {d : Nat} (h0 : r ≠ []) (hd : 1 ≤ d) (hl : d ≤ r.length) : rptB r d = true ↔ r.length % d = 0 ∧ ∀ i, wl r (i + d) = wl r i := by
  have hm : 0 < r.length := List.length_pos_iff.mpr h0
  have ht : r.take d = sq (wl r) 0 d := by
    conv => lhs; rw [w_sq r]
    exact sq_take _ _ _ _ hl
  unfold rptB
  rw [Bool.and_eq_true, decide_eq_true_eq, beq_iff_eq]
  constructor
  · rintro ⟨h1, h2⟩
    refine ⟨h1, fun i => ?_⟩
    -- r[i] = r[i % d]
    have hdv : r.length = r.length / d * d := by
      have := Nat.div_add_mod r.length d
      rw [h1] at this
      rw [Nat.mul_comm]
      omega
    have hg : ∀ j, j < r.length → wl r j = wl r (j % d) := fun j hj => by
      let g : Nat → Nat := fun i => wl r (i % d)
      have hgp : ∀ i, g (i + d) = g i := fun i => by show wl r ((i + d) % d) = wl r (i % d); rw [Nat.add_mod_right]
      have e1 : r.take d = sq g 0 d := by
        rw [ht]
        apply sq_congr
        intro i _ hi
        show wl r i = wl r (i % d)
        rw [Nat.mod_eq_of_lt (by omega)]
      rw [e1, ← sq_rep g d hgp, ← hdv] at h2
      have h3 : sq g 0 r.length = sq (wl r) 0 r.length := by rw [h2, ← w_sq]
      have h4 := sq_inj h3 j hj
      rw [Nat.zero_add] at h4
      exact h4.symm
    have w1 : ∀ j, wl r j = wl r (j % r.length) := fun j => by unfold wl; rw [Nat.mod_mod]
    have mm : ∀ j, j % r.length % d = j % d := fun j => Nat.mod_mod_of_dvd _ (Nat.dvd_of_mod_eq_zero h1)
    rw [w1 (i + d), hg _ (Nat.mod_lt _ hm), mm, w1 i, hg _ (Nat.mod_lt _ hm), mm, Nat.add_mod_right]
  · rintro ⟨h1, h2⟩
    refine ⟨h1, ?_⟩
    have hdv : r.length / d * d = r.length := by
      have := Nat.div_add_mod r.length d
      rw [h1] at this
      rw [Nat.mul_comm]
      omega
    rw [ht, ← sq_rep (wl r) d h2, hdv, ← w_sq]
theorem once_eq {r : List Nat} (h0 : r ≠ []) : onceP r = onceL r := by
  obtain ⟨p, e, h1, h2, h3, h4⟩ := per_ex h0
  have hp := (fix_iff h2 h0).mp h3
  have hdv : p ∣ r.length := by rw [← e]; exact per_dvd h0 (wl_per r)
  unfold onceL onceP
  rw [e]
  rcases Nat.lt_or_eq_of_le h2 with hlt | heq
  · have hrep : rptB r p = true := (rep_iff h0 h1 h2).mpr ⟨Nat.mod_eq_zero_of_dvd hdv, hp⟩
    have key : (List.range' 1 (r.length - 1)).find? (rptB r) = some p := by
      cases hf : (List.range' 1 (r.length - 1)).find? (rptB r) with
      | none =>
        rw [List.find?_eq_none] at hf
        exact absurd hrep (hf p (by rw [List.mem_range'_1]; omega))
      | some d =>
        have hd1 := List.find?_some hf
        have hd2 := List.mem_of_find?_eq_some hf
        rw [List.mem_range'_1] at hd2
        obtain ⟨_, hd3⟩ := (rep_iff h0 (by omega) (by omega)).mp hd1
        have := per_dvd h0 hd3
        rw [e] at this
        have hle := Nat.le_of_dvd (by omega) this
        rcases Nat.lt_or_eq_of_le hle with hl2 | hl2
        · -- the first found is the least
          exfalso
          obtain ⟨as, bs, h5, h6⟩ := List.find?_eq_some_iff_append.mp hf |>.2
          have hmem : p ∈ as := by
            have hpm : p ∈ List.range' 1 (r.length - 1) := by rw [List.mem_range'_1]; omega
            have hs : (List.range' 1 (r.length - 1)).Pairwise (· < ·) := List.pairwise_lt_range'
            rw [h5] at hpm hs
            rcases List.mem_append.mp hpm with h7 | h7
            · exact h7
            · rcases List.mem_cons.mp h7 with h8 | h8
              · omega
              · rw [List.pairwise_append] at hs
                have := (List.pairwise_cons.mp hs.2.1).1 p h8
                omega
          have := h6 p hmem
          rw [hrep] at this
          cases this
        · rw [hl2]
    rw [key]
  · have key : (List.range' 1 (r.length - 1)).find? (rptB r) = none := by
      rw [List.find?_eq_none]
      intro d hd hr
      rw [List.mem_range'_1] at hd
      obtain ⟨_, hd3⟩ := (rep_iff h0 (by omega) (by omega)).mp hr
      have := per_dvd h0 hd3
      rw [e] at this
      have := Nat.le_of_dvd (by omega) this
      omega
    rw [key, heq, List.take_of_length_le (Nat.le_refl _)]
end Rf

/-! Ps7: rows several times over, turned; the least turns, plain. -/
namespace Rf
theorem once_sq {r : List Nat} (h0 : r ≠ []) : onceL r = sq (wl r) 0 (perN r) := by
  obtain ⟨p, e, h1, h2, h3, h4⟩ := per_ex h0
  unfold onceL
  rw [e]
  conv => lhs; rw [w_sq r]
  exact sq_take _ _ _ _ h2
theorem once_len {r : List Nat} (h0 : r ≠ []) : (onceL r).length = perN r := by rw [once_sq h0, sq_len]
theorem per_pos {r : List Nat} (h0 : r ≠ []) : 1 ≤ perN r := by
  obtain ⟨p, e, h1, _⟩ := per_ex h0
  rw [e]; exact h1
theorem per_le {r : List Nat} (h0 : r ≠ []) : perN r ≤ r.length := by
  obtain ⟨p, e, _, h1, _⟩ := per_ex h0
  rw [e]; exact h1
theorem per_per {r : List Nat} (h0 : r ≠ []) : ∀ i, wl r (i + perN r) = wl r i := by
  obtain ⟨p, e, h1, h2, h3, _⟩ := per_ex h0
  rw [e]
  exact (fix_iff h2 h0).mp h3
theorem once_ne {r : List Nat} (h0 : r ≠ []) : onceL r ≠ [] := List.ne_nil_of_length_pos (by rw [once_len h0]; exact per_pos h0)
theorem wl_of_sq {f : Nat → Nat} {n : Nat} (hn : 0 < n) (hf : ∀ i, f (i + n) = f i) (k i : Nat) : wl (sq f k n) i = f (k + i) := by
  unfold wl
  rw [sq_len, sq_get _ _ _ _ (Nat.mod_lt _ hn)]
  show f (k + i % n) = f (k + i)
  have h3 := Nat.mod_add_div i n
  have h5 := per_mul hf (i / n) (k + i % n)
  rw [← h5, Nat.mul_comm (i / n), Nat.add_assoc, h3]
theorem wl_once {r : List Nat} (h0 : r ≠ []) (i : Nat) : wl (onceL r) i = wl r i := by
  rw [once_sq h0, wl_of_sq (per_pos h0) (per_per h0), Nat.zero_add]
theorem per_eq {a b : List Nat} (ha : a ≠ []) (hb : b ≠ []) (h : ∀ q, (∀ i, wl a (i + q) = wl a i) ↔ (∀ i, wl b (i + q) = wl b i)) : perN a = perN b :=
  Nat.dvd_antisymm (per_dvd ha ((h _).mpr (per_per hb))) (per_dvd hb ((h _).mp (per_per ha)))
def manyL (m : Nat) (r : List Nat) : List Nat := (List.replicate m r).flatten
theorem many_sq (m : Nat) (r : List Nat) : manyL m r = sq (wl r) 0 (m * r.length) := by
  rw [sq_rep (wl r) r.length (wl_per r), ← w_sq]
  rfl
theorem many_len (m : Nat) (r : List Nat) : (manyL m r).length = m * r.length := by rw [many_sq, sq_len]
theorem wl_many {m : Nat} {r : List Nat} (hm : 0 < m) (h0 : r ≠ []) (i : Nat) : wl (manyL m r) i = wl r i := by
  have hl : 0 < r.length := List.length_pos_iff.mpr h0
  rw [many_sq, wl_of_sq (Nat.mul_pos hm hl) (fun i => per_mul (wl_per r) m i), Nat.zero_add]
theorem many_ne {m : Nat} {r : List Nat} (hm : 0 < m) (h0 : r ≠ []) : manyL m r ≠ [] := List.ne_nil_of_length_pos (by rw [many_len]; exact Nat.mul_pos hm (List.length_pos_iff.mpr h0))
theorem once_many {m : Nat} {r : List Nat} (hm : 0 < m) (h0 : r ≠ []) : onceL (manyL m r) = onceL r := by
  have hp : perN (manyL m r) = perN r := per_eq (many_ne hm h0) h0 fun q => by
    constructor <;> (intro h i; have := h i; simpa only [wl_many hm h0] using this)
  rw [once_sq (many_ne hm h0), once_sq h0, hp]
  apply sq_congr
  intro k _ _
  exact wl_many hm h0 k
def turnL (k : Nat) (r : List Nat) : List Nat := r.drop k ++ r.take k
theorem turn_sq {r : List Nat} {k : Nat} (hk : k ≤ r.length) : turnL k r = sq (wl r) k r.length := rot_sq r k hk
theorem turn_len (r : List Nat) (k : Nat) (hk : k ≤ r.length) : (turnL k r).length = r.length := by rw [turn_sq hk, sq_len]
theorem turn_ne {r : List Nat} {k : Nat} (hk : k ≤ r.length) (h0 : r ≠ []) : turnL k r ≠ [] := List.ne_nil_of_length_pos (by rw [turn_len r k hk]; exact List.length_pos_iff.mpr h0)
theorem wl_turn {r : List Nat} {k : Nat} (hk : k ≤ r.length) (h0 : r ≠ []) (i : Nat) : wl (turnL k r) i = wl r (k + i) := by
  rw [turn_sq hk, wl_of_sq (List.length_pos_iff.mpr h0) (wl_per r)]
theorem shift_per {f : Nat → Nat} {n k q : Nat} (hn : 0 < n) (hf : ∀ i, f (i + n) = f i) (h : ∀ i, f (k + (i + q)) = f (k + i)) (i : Nat) : f (i + q) = f i := by
  have h1 := per_mul hf k (i + q)
  have h2 := per_mul hf k i
  have hge : k ≤ k * n := Nat.le_mul_of_pos_right _ hn
  obtain ⟨c, hc⟩ : ∃ c, i + k * n = k + c := ⟨i + k * n - k, by omega⟩
  rw [← h1, ← h2, show i + q + k * n = k + (c + q) by omega, hc]
  exact h c
theorem per_turn {r : List Nat} {k : Nat} (hk : k ≤ r.length) (h0 : r ≠ []) : perN (turnL k r) = perN r := per_eq (turn_ne hk h0) h0 fun q => by
  constructor
  · intro h i
    refine shift_per (k := k) (List.length_pos_iff.mpr h0) (wl_per r) (fun i => ?_) i
    have := h i
    rwa [wl_turn hk h0, wl_turn hk h0] at this
  · intro h i
    rw [wl_turn hk h0, wl_turn hk h0, ← Nat.add_assoc, h]
theorem once_turn {r : List Nat} {k : Nat} (hk : k ≤ r.length) (h0 : r ≠ []) : onceL (turnL k r) = sq (wl r) k (perN r) := by
  rw [once_sq (turn_ne hk h0), per_turn hk h0]
  have := sq_shift (wl r) k 0 (perN r)
  rw [Nat.zero_add] at this
  rw [this]
  apply sq_congr
  intro i _ _
  rw [wl_turn hk h0, Nat.add_comm]
theorem sq_mod {f : Nat → Nat} {n : Nat} (hf : ∀ i, f (i + n) = f i) (k m : Nat) : sq f k m = sq f (k % n) m := by
  have h3 := Nat.mod_add_div k n
  have pq : ∀ i, f (i + k / n * n) = f i := fun i => per_mul hf (k / n) i
  conv => lhs; rw [← h3, Nat.mul_comm]
  exact sq_per pq _ _
/-- the turns of the shortest -/
theorem rots_once {r x : List Nat} (h0 : r ≠ []) : x ∈ rots (onceL r) ↔ ∃ j, x = sq (wl r) j (perN r) := by
  rw [rots_mem]
  have e : ∀ j, sq (wl (onceL r)) j (onceL r).length = sq (wl r) j (perN r) := fun j => by
    rw [once_len h0]
    apply sq_congr
    intro i _ _
    exact wl_once h0 i
  constructor
  · rintro ⟨j, hj, rfl⟩
    exact ⟨j, e j⟩
  · rintro ⟨j, rfl⟩
    refine ⟨j % perN r, by rw [once_len h0]; exact Nat.mod_lt _ (per_pos h0), ?_⟩
    rw [e, ← sq_mod (per_per h0)]
def firstN (r : List Nat) : List Nat := leastN (rots (onceL r))
theorem rots_ne' {w : List Nat} (h0 : w ≠ []) : rots w ≠ [] := fun e => by
  have := congrArg List.length e
  unfold rots at this
  rw [List.length_map, List.length_range'] at this
  simp at this
  exact h0 this
theorem first_congr {a b : List Nat} (ha : a ≠ []) (h : ∀ x, x ∈ rots a ↔ x ∈ rots b) : leastN (rots a) = leastN (rots b) := by
  obtain ⟨h1, h2⟩ := least_spec (rots_ne' ha)
  exact (least_uniq ((h _).mp h1) fun y hy => h2 y ((h y).mpr hy)).symm
theorem first_turn' {r : List Nat} {k : Nat} (hk : k ≤ r.length) (h0 : r ≠ []) : firstN (turnL k r) = firstN r := by
  unfold firstN
  refine first_congr (once_ne (turn_ne hk h0)) fun x => ?_
  rw [rots_once (turn_ne hk h0), rots_once h0, per_turn hk h0]
  have e : ∀ j, sq (wl (turnL k r)) j (perN r) = sq (wl r) (j + k) (perN r) := fun j => by
    rw [sq_shift]
    apply sq_congr
    intro i _ _
    rw [wl_turn hk h0, Nat.add_comm]
  constructor
  · rintro ⟨j, rfl⟩; exact ⟨j + k, e j⟩
  · rintro ⟨j, rfl⟩
    refine ⟨j + k * perN r - k, ?_⟩
    have hge : k ≤ k * perN r := Nat.le_mul_of_pos_right _ (per_pos h0)
    rw [e, show j + k * perN r - k + k = j + k * perN r by omega]
    have pq : ∀ i, wl r (i + k * perN r) = wl r i := fun i => per_mul (per_per h0) k i
    exact (sq_per pq _ _).symm
theorem first_many {m : Nat} {r : List Nat} (hm : 0 < m) (h0 : r ≠ []) : firstN (manyL m r) = firstN r := by
  unfold firstN
  rw [once_many hm h0]
/-- whose least turns are one is a turn of the other -/
theorem mem_of_first {a b : List Nat} (ha : a ≠ []) (hb : b ≠ []) (h : leastN (rots a) = leastN (rots b)) : b ∈ rots a := by
  obtain ⟨h1, _⟩ := least_spec (rots_ne' ha)
  obtain ⟨h2, _⟩ := least_spec (rots_ne' hb)
  rw [h] at h1
  generalize leastN (rots b) = x at *
  obtain ⟨j, hj, e1⟩ := rots_mem.mp h1
  obtain ⟨j', hj', e2⟩ := rots_mem.mp h2
  have hl : a.length = b.length := by
    have l1 := congrArg List.length e1
    have l2 := congrArg List.length e2
    rw [sq_len] at l1 l2
    omega
  have hn : 0 < a.length := List.length_pos_iff.mpr ha
  rw [e1, ← hl] at e2
  have key : ∀ i, wl b (j' + i) = wl a (j + i) := fun i => by
    have h5 := sq_inj e2 (i % a.length) (Nat.mod_lt _ hn)
    have h3 := Nat.mod_add_div i a.length
    have q1 := per_mul (wl_per a) (i / a.length) (j + i % a.length)
    have q2 := per_mul (wl_per b) (i / a.length) (j' + i % a.length)
    rw [← hl] at q2
    rw [Nat.mul_comm (i / a.length), Nat.add_assoc, h3] at q1 q2
    rw [q1, q2, h5]
  rw [rots_mem]
  have hge : j' ≤ j' * a.length := Nat.le_mul_of_pos_right _ hn
  refine ⟨(j + (j' * a.length - j')) % a.length, Nat.mod_lt _ hn, ?_⟩
  rw [← sq_mod (wl_per a)]
  conv => lhs; rw [w_sq b]
  rw [← hl]
  have := sq_shift (wl a) (j + (j' * a.length - j')) 0 a.length
  rw [Nat.zero_add] at this
  rw [this]
  apply sq_congr
  intro i _ _
  have q := per_mul (wl_per b) j' i
  rw [← hl] at q
  rw [← q, show i + j' * a.length = j' + (i + (j' * a.length - j')) by omega, key]
  congr 1
  omega
/-- the first place of something -/
theorem first_ix {β : Type} [BEq β] (g : Nat → β) (y : β) : ∀ (n lo : Nat), ((List.range' lo n).map g).findIdx? (fun x => x == y) = (((List.range' lo n).filter fun j => g j == y).head?).map fun j => j - lo
  | 0, lo => rfl
  | n + 1, lo => by
    rw [List.range'_succ, List.map_cons, List.findIdx?_cons]
    by_cases hc : (g lo == y) = true
    · rw [if_pos hc, List.filter_cons_of_pos (p := fun j => g j == y) hc]
      simp
    · rw [if_neg hc, List.filter_cons_of_neg (p := fun j => g j == y) hc, first_ix g y n (lo + 1)]
      cases hh : ((List.range' (lo + 1) n).filter fun j => g j == y).head? with
      | none => rfl
      | some j =>
        have : j ∈ (List.range' (lo + 1) n).filter fun j => g j == y := List.mem_of_mem_head? hh
        rw [List.mem_filter, List.mem_range'_1] at this
        simp only [Option.map_some, Option.some.injEq]
        omega
end Rf

/-! Pv6: rows that come round: the walks. -/
namespace Rf
def c56 : Fc := ⟨1, 1, [], (.cons (.ret (.and2 (.call 24 (.ref 0 .nil) []) (.and2 (.tst (.cmp .gt (.val (.bi .len (.pk 0))) (.val (.cst (.int 0))))) (.tst (.cmp .gt (.val (.bi .min (.pk 0))) (.val (.cst (.int 0)))))))) .nil)⟩
def c57 : Fc := ⟨1, 2, [], (.cons (.asg (.nm 1) (.call 25 (.ref 0 .nil) [])) (.cons (.ite (.or2 (.not (.tr (.val (.call 56 (.ref 1 .nil) [])))) (.or2 (.cmp .gt (.val (.bi .len (.pk 1))) (.val (.cst (.int 60)))) (.cmp .gt (.val (.bi .max (.pk 1))) (.val (.cst (.int 1000000)))))) (.cons (.raise 1) .nil) .nil) (.cons (.ret (.mv 1)) .nil)))⟩
def c58 : Fc := ⟨1, 2, [], (.cons (.fr (.nm 1) (.rng (.cst (.int 1)) (.bi .len (.pk 0))) (.cons (.ite (.and2 (.cmp .eq (.val (.bin .mod (.val (.bi .len (.pk 0))) (.pk 1))) (.val (.cst (.int 0)))) (.cmp .eq (.val (.bin .mul (.val (.slc (.pk 0) none (some (.var 1)))) (.val (.bin .fdiv (.val (.bi .len (.pk 0))) (.pk 1))))) (.pk 0))) (.cons (.ret (.slc (.pk 0) none (some (.var 1)))) .nil) .nil) .nil)) (.cons (.ret (.var 0)) .nil))⟩
def c59 : Fc := ⟨1, 2, [], (.cons (.ret (.lc [1] (.nm 1) (.rng1 (.bi .len (.pk 0))) none (.bin .add (.val (.slc (.pk 0) (some (.var 1)) none)) (.val (.slc (.pk 0) none (some (.var 1))))))) .nil)⟩
def c60 : Fc := ⟨1, 1, [], (.cons (.ret (.bi .min (.val (.call 59 (.val (.call 58 (.ref 0 .nil) []) .nil) [])))) .nil)⟩
def c61 : Fc := ⟨1, 1, [], (.cons (.ret (.call 58 (.val (.call 57 (.ref 0 .nil) []) .nil) [])) .nil)⟩
def c62 : Fc := ⟨1, 1, [], (.cons (.ret (.call 60 (.val (.call 57 (.ref 0 .nil) []) .nil) [])) .nil)⟩
def c63 : Fc := ⟨2, 4, [], (.cons (.par [2, 3] (.cons (.call 57 (.ref 0 .nil) []) (.cons (.call 57 (.ref 1 .nil) []) .nil))) (.cons (.ret (.tst (.cmp .eq (.val (.call 60 (.ref 2 .nil) [])) (.val (.call 60 (.ref 3 .nil) []))))) .nil))⟩
def c64 : Fc := ⟨2, 4, [], (.cons (.par [2, 3] (.cons (.call 57 (.ref 0 .nil) []) (.cons (.call 57 (.ref 1 .nil) []) .nil))) (.cons (.ite (.cmp .ne (.val (.call 60 (.ref 2 .nil) [])) (.val (.call 60 (.ref 3 .nil) []))) (.cons (.ret (.cst .non)) .nil) .nil) (.cons (.ret (.met .index (.val (.call 59 (.val (.call 58 (.ref 2 .nil) []) .nil) [])) (.val (.call 58 (.ref 3 .nil) [])))) .nil)))⟩
def c65 : Fc := ⟨1, 2, [], (.cons (.asg (.nm 1) (.call 57 (.ref 0 .nil) [])) (.cons (.ret (.tst (.cmp .eq (.val (.call 60 (.ref 1 .nil) [])) (.val (.call 60 (.val (.rvs (.pk 1) none) .nil) []))))) .nil))⟩
def c67 : Fc := ⟨3, 4, [], (.cons (.ret (.bi .tuple (.val (.lc [3] (.nm 3) (.rng1 (.bin .add (.val (.cst (.int 1))) (.val (.call 10 (.ref 0 (.ref 1 .nil)) [])))) none (.bin .add (.val (.cst (.int 1))) (.val (.call 10 (.ref 0 (.ref 2 .nil)) []))))))) .nil)⟩
def c68 : Fc := ⟨1, 2, [], (.cons (.ret (.lc [1] (.nm 1) (.rng1 (.bi .len (.pk 0))) none (.bin .add (.val (.slc (.pk 0) (some (.var 1)) none)) (.val (.slc (.pk 0) none (some (.var 1))))))) .nil)⟩
def c69 : Fc := ⟨1, 3, [], (.cons (.asg (.nm 1) (.lc [2] (.nm 2) (.rng (.cst (.int 1)) (.bin .add (.val (.bi .len (.pk 0))) (.val (.cst (.int 1))))) (some (.cmp .eq (.val (.bin .add (.val (.slc (.pk 0) (some (.var 2)) none)) (.val (.slc (.pk 0) none (some (.var 2)))))) (.pk 0))) (.var 2))) (.cons (.ret (.slc (.pk 0) none (some (.ix (.pk 1) (.val (.cst (.int 0))))))) .nil))⟩
def c70 : Fc := ⟨1, 1, [], (.cons (.ret (.ix (.val (.bi .sorted (.val (.call 68 (.val (.call 69 (.ref 0 .nil) []) .nil) [])))) (.val (.cst (.int 0))))) .nil)⟩
def rowD (r : List Nat) : D := .tup (r.map fun n => .int (n : Nat))
theorem rowD_ints (r : List Nat) : rowD r = .tup ((r.map fun (n : Nat) => (n : Int)).map D.int) := by unfold rowD; rw [List.map_map]; rfl
theorem peqs_row : ∀ a b : List Nat, peqs (a.map fun n => D.int (n : Nat)) (b.map fun n => D.int (n : Nat)) = (a == b)
  | [], [] => rfl
  | [], _ :: _ => rfl
  | _ :: _, [] => rfl
  | x :: a, y :: b => by
    rw [List.map_cons, List.map_cons, peqs, peqs_row a b]
    show (((x : Int) == y) && (a == b)) = ((x == y) && (a == b))
    congr 1
    rw [Bool.eq_iff_iff]
    simp
    omega
theorem peq_row (a b : List Nat) : peq (rowD a) (rowD b) = (a == b) := peqs_row a b
theorem plts_row : ∀ a b : List Nat, plts (a.map fun n => D.int (n : Nat)) (b.map fun n => D.int (n : Nat)) = decide (a < b)
  | [], [] => rfl
  | [], _ :: _ => by simp [plts]
  | _ :: _, [] => by simp [plts]
  | x :: a, y :: b => by
    rw [List.map_cons, List.map_cons, plts, plts_row a b]
    have e1 : peq (.int (x : Nat)) (.int (y : Nat)) = decide (x = y) := by
      show ((x : Int) == y) = decide (x = y)
      rw [Bool.eq_iff_iff]
      simp
      omega
    have e2 : plt (.int (x : Nat)) (.int (y : Nat)) = decide (x < y) := by
      show decide ((x : Int) < y) = decide (x < y)
      exact decide_eq_decide.mpr (by omega)
    rw [e1, e2]
    by_cases h : x = y
    · subst h
      rw [if_pos (by simp)]
      exact decide_eq_decide.mpr (by rw [List.cons_lt_cons_iff]; simp)
    · rw [if_neg (by simpa using h)]
      exact decide_eq_decide.mpr (by rw [List.cons_lt_cons_iff]; simp [h])
theorem plt_row (a b : List Nat) : plt (rowD a) (rowD b) = decide (a < b) := plts_row a b
theorem pln_row (r : List Nat) : pln (rowD r) = true := by rw [rowD_ints]; exact pln_ints _
theorem dep_row (r : List Nat) : dep (rowD r) = 1 := by
  rw [rowD_ints, dep, deps_ints]
theorem sml_row {r : List Nat} (h : r.length ≤ SZ) : sml (rowD r) = true := by
  rw [rowD_ints, sml, smls_ints, List.length_map, List.length_map, decide_eq_true h]
  rfl
theorem tup_row (r : List Nat) : tupD (rowD r) = rowD r := by rw [rowD_ints, tupD, tupDs_ints]
theorem cmp_eq_row (a b : List Nat) : cmpD .eq (rowD a) (rowD b) = some (a == b) := by
  have h : eqOk (rowD a) (rowD b) = true := by unfold eqOk; rw [pln_row, pln_row, dep_row, dep_row]; rfl
  show (if eqOk (rowD a) (rowD b) then some (peq (rowD a) (rowD b)) else none) = _
  rw [if_pos h, peq_row]
theorem cmp_ne_row (a b : List Nat) : cmpD .ne (rowD a) (rowD b) = some (!(a == b)) := by
  have h : eqOk (rowD a) (rowD b) = true := by unfold eqOk; rw [pln_row, pln_row, dep_row, dep_row]; rfl
  show (if eqOk (rowD a) (rowD b) then some (!peq (rowD a) (rowD b)) else none) = _
  rw [if_pos h, peq_row]
theorem alks_row : ∀ a b : List Nat, alks (a.map fun n => D.int (n : Nat)) (b.map fun n => D.int (n : Nat)) = true
  | [], _ => by simp [alks]
  | _ :: _, [] => rfl
  | x :: a, y :: b => by rw [List.map_cons, List.map_cons, alks, alks_row a b]; rfl
theorem alk_rows (l l' : List (List Nat)) : ((l.map rowD).all fun a => (l'.map rowD).all fun b => alk a b) = true := by
  have : ∀ a b : List Nat, alk (rowD a) (rowD b) = true := alks_row
  simp [List.all_eq_true, this]
theorem plns_rows : ∀ l : List (List Nat), plns (l.map rowD) = true
  | [] => rfl
  | x :: l => by rw [List.map_cons, plns, plns_rows l, pln_row]; rfl
theorem deps_rows : ∀ l : List (List Nat), deps (l.map rowD) ≤ 1
  | [] => Nat.zero_le _
  | x :: l => by rw [List.map_cons, deps, dep_row]; have := deps_rows l; omega
/-! ### the least of rows -/
theorem insE_head {e : List Nat → D} (he : ∀ x y, plt (e x) (e y) = decide (x < y)) (x m : List Nat) (ys : List D) : ∃ h t, insD (e x) (e m :: ys) = e h :: t ∧ (h = x ∧ ¬ m < x ∨ h = m ∧ m < x) := by
  rw [insD, he]
  by_cases hc : m < x
  · exact ⟨m, insD (e x) ys, by simp [hc], .inr ⟨rfl, hc⟩⟩
  · exact ⟨x, e m :: ys, by simp [hc], .inl ⟨rfl, hc⟩⟩
theorem srtE_head {e : List Nat → D} (he : ∀ x y, plt (e x) (e y) = decide (x < y)) : ∀ (l : List (List Nat)), l ≠ [] → ∃ h t, srt (l.map e) = e h :: t ∧ h ∈ l ∧ ∀ y ∈ l, ¬ y < h
  | [], h => absurd rfl h
  | [x], _ => ⟨x, [], rfl, List.mem_cons_self .., fun y hy => by
    rcases List.mem_cons.mp hy with rfl | hy
    · exact List.lt_irrefl _
    · cases hy⟩
  | x :: x2 :: l, _ => by
    obtain ⟨m, t, e1, hm, hall⟩ := srtE_head he (x2 :: l) (by simp)
    rw [List.map_cons, srt, e1]
    obtain ⟨h, t', e', hc⟩ := insE_head he x m t
    refine ⟨h, t', e', ?_, ?_⟩
    · rcases hc with ⟨rfl, _⟩ | ⟨rfl, _⟩
      · exact List.mem_cons_self ..
      · exact List.mem_cons_of_mem _ hm
    · intro y hy
      rcases hc with ⟨rfl, hc⟩ | ⟨rfl, hc⟩
      · rcases List.mem_cons.mp hy with rfl | hy
        · exact List.lt_irrefl _
        · intro hlt
          have h1 := hall y hy
          exact absurd hlt (List.not_lt.mpr (List.le_trans (List.not_lt.mp hc) (List.not_lt.mp h1)))
      · rcases List.mem_cons.mp hy with rfl | hy
        · exact List.lt_asymm hc
        · exact hall y hy
theorem leastE {e : List Nat → D} (he : ∀ x y, plt (e x) (e y) = decide (x < y)) {l : List (List Nat)} (h : l ≠ []) : leastD (l.map e) = some (e (leastN l)) := by
  cases l with
  | nil => exact absurd rfl h
  | cons x l =>
    show some ((l.map e).foldl _ (e x)) = some (e (l.foldl _ x))
    congr 1
    clear h
    induction l generalizing x with
    | nil => rfl
    | cons y l ih =>
      rw [List.map_cons, List.foldl_cons, List.foldl_cons, he]
      by_cases hc : y < x
      · rw [if_pos (by simpa using hc), if_pos hc]; exact ih y
      · rw [if_neg (by simpa using hc), if_neg hc]; exact ih x
theorem bi_min_rows {l : List (List Nat)} (h : l ≠ []) : biD .min (.lst (l.map rowD)) = some (.v (rowD (leastN l))) := by
  have h1 : intsD (l.map rowD) = none := by
    cases l with
    | nil => exact absurd rfl h
    | cons x l => rfl
  have h2 : mmOk (l.map rowD) = true := by
    unfold mmOk allAlk
    rw [alk_rows, plns_rows, decide_eq_true (Nat.le_trans (deps_rows l) (by decide))]
    simp [rowD]
  show (match intsD (l.map rowD) with | some (n :: ns) => some (Sl.v (.int (ns.foldl min n))) | some [] => none | none => if mmOk (l.map rowD) then (leastD (l.map rowD)).map Sl.v else none) = _
  rw [h1]
  dsimp only
  rw [if_pos h2, leastE plt_row h]
  rfl
theorem sorted_rows {l : List (List Nat)} (h0 : l ≠ []) (hne : ∀ x ∈ l, x ≠ []) (hl : l.length ≤ SZ) : ∃ t, biD .sorted (.lst (l.map rowD)) = some (.o (.lst (rowD (leastN l) :: t))) := by
  have h1 : intsD (l.map rowD) = none := by
    cases l with
    | nil => exact absurd rfl h0
    | cons x l => rfl
  have h2 : srtOk (l.map rowD) = true := by
    unfold srtOk allAlk
    simp only [Bool.and_eq_true, Bool.or_eq_true]
    refine ⟨⟨⟨⟨alk_rows l l, plns_rows l⟩, by rw [List.length_map]; exact decide_eq_true hl⟩, .inl ?_⟩, decide_eq_true (Nat.le_trans (deps_rows l) (by decide))⟩
    rw [List.all_eq_true]
    intro d hd
    obtain ⟨x, hx, rfl⟩ := List.mem_map.mp hd
    have := hne x hx
    cases x with
    | nil => exact absurd rfl this
    | cons a x => rfl
  obtain ⟨m, t, e, hm, hall⟩ := srtE_head plt_row l h0
  have : leastN l = m := least_uniq hm hall
  rw [this]
  refine ⟨t, ?_⟩
  show (match intsD (l.map rowD) with | some ns => some (Sl.o (.lst ((isort ns).map .int))) | none => if srtOk (l.map rowD) then some (Sl.o (.lst (srt (l.map rowD)))) else none) = _
  rw [h1]
  dsimp only
  rw [if_pos h2, e]
/-! ### slices, sums of rows -/
theorem slD_row (r : List Nat) (n : Nat) : slD (rowD r) none (some (n : Int)) = some (.v (rowD (r.take n))) ∧ slD (rowD r) (some (n : Int)) none = some (.v (rowD (r.drop n))) := by
  unfold rowD
  rw [slD_tup, slD_tup, cut_to, cut_from, List.map_take, List.map_drop]
  exact ⟨rfl, rfl⟩
theorem add_row (a b : List Nat) (h : a.length + b.length ≤ SZ) : binD .add (rowD a) (rowD b) = some (.v (rowD (a ++ b))) := by
  unfold rowD
  rw [bin_addt _ _ (by rw [List.length_map, List.length_map]; exact h), List.map_append]
theorem mul_row (a : List Nat) (k : Nat) (h1 : 1 ≤ k) (h2 : k ≤ 1000) (h3 : a.length ≤ 1000) (h4 : a ≠ []) : binD .mul (rowD a) (.int k) = some (.v (rowD (manyL k a))) := by
  have hl := List.length_pos_iff.mpr h4
  show (if 1 ≤ (k : Int) ∧ (k : Int) ≤ 1000 ∧ (a.map fun n => D.int (n : Nat)).length ≤ 1000 ∧ (a.map fun n => D.int (n : Nat)).length ≠ 0 then some (Sl.v (.tup (List.replicate (k : Int).toNat (a.map fun n => D.int (n : Nat))).flatten)) else none) = _
  rw [if_pos (by rw [List.length_map]; omega)]
  unfold rowD manyL
  rw [Int.toNat_natCast, List.map_flatten, List.map_replicate]
theorem len_row (r : List Nat) : biD .len (rowD r) = some (.v (.int r.length)) := by
  unfold rowD
  rw [bi_len_tup, List.length_map]
theorem rv_row (r : List Nat) : rvD (rowD r) none = some (.v (rowD r.reverse)) := by
  unfold rowD
  rw [rvD_tup, List.map_reverse]
/-! ### the program -/
theorem isrow_T {T : Nat → Option Fn} [Hf T 22 c22] [Hf T 24 c24] [Hf T 56 c56] {k : Nat} (hk : 3 ≤ k) (xs : List Int) (hl : xs.length ≤ SZ) : Phi T k 56 [.v (.tup (xs.map .int))] = .ok (.v (.bl (decide (xs ≠ []) && xs.all fun x => decide (0 < x)))) [.v (.tup (xs.map .int))] := by
  obtain ⟨k, rfl, hk⟩ := suc_of hk
  have e1 := nums_T (T := T) (k := k) (by omega) (d := .tup (xs.map .int)) (by rw [sml, smls_ints, List.length_map, decide_eq_true hl]; rfl)
  have e2 : numsB (.tup (xs.map .int)) = true := all_isNum xs
  rw [e2] at e1
  rw [phi_c c56]
  generalize Phi T k = Φ at *
  cases xs with
  | nil =>
    simp only [List.map_nil] at e1
    simp [runF, c56, e1]
  | cons x xs =>
    have e3 : minI (((x :: xs)).map D.int) = some (.v (.int (xs.foldl min x))) := by
      unfold minI
      have h1 : intsD ((x :: xs).map D.int) = some (x :: xs) := by
        have := intsD_map (fun x : Int => x) (x :: xs)
        simpa using this
      rw [h1]
    have e4 : decide (0 < xs.foldl min x) = (x :: xs).all fun x => decide (0 < x) := by
      obtain ⟨h1, h2⟩ := foldl_min xs x
      rw [Bool.eq_iff_iff, decide_eq_true_eq, List.all_eq_true]
      constructor
      · intro h y hy
        rw [decide_eq_true_eq]
        have := h2 y hy
        omega
      · intro h
        simpa using h _ h1
    have e5 : biD .len (.tup ((x :: xs).map D.int)) = some (.v (.int ((xs.length : Int) + 1))) := by simp
    generalize hX : (x :: xs).map D.int = X at *
    have e6 : (0 : Int) < (xs.length : Int) + 1 := by omega
    simp only [bi_len_tup] at e5
    rw [← e4]
    simp [runF, c56, e1, e3]
    have e7 : (0 : Int) < X.length := by rw [← hX]; simp
    have e8 : 0 < X.length := by omega
    simp [e8]
theorem isrow_no {T : Nat → Option Fn} [Hf T 22 c22] [Hf T 24 c24] [Hf T 56 c56] {k : Nat} (hk : 3 ≤ k) {d : D} (hd : sml d = true) (hn : numsB d = false) : Phi T k 56 [.v d] = .ok (.v (.bl false)) [.v d] := by
  obtain ⟨k, rfl, hk⟩ := suc_of hk
  have e1 := nums_T (T := T) (k := k) (by omega) hd
  rw [hn] at e1
  rw [phi_c c56]
  generalize Phi T k = Φ at *
  simp [runF, c56, e1]
/-- a ROW within the bounds -/
structure GoodR (r : List Nat) : Prop where
  ne : r ≠ []
  len : r.length ≤ 60
  pos : ∀ x ∈ r, 1 ≤ x
  le : ∀ x ∈ r, x ≤ 1000000
theorem isrow_good {T : Nat → Option Fn} [Hf T 22 c22] [Hf T 24 c24] [Hf T 56 c56] {k : Nat} (hk : 3 ≤ k) {r : List Nat} (hr : GoodR r) : Phi T k 56 [.v (rowD r)] = .ok (.v (.bl true)) [.v (rowD r)] := by
  have := isrow_T (T := T) hk (r.map fun (n : Nat) => (n : Int)) (by rw [List.length_map]; exact le_SZ (by have := hr.len; omega))
  rw [rowD_ints, this]
  have h1 : decide ((r.map fun (n : Nat) => (n : Int)) ≠ []) = true := by simpa using hr.ne
  have h2 : ((r.map fun (n : Nat) => (n : Int)).all fun x => decide (0 < x)) = true := by
    rw [List.all_eq_true]
    intro x hx
    obtain ⟨y, hy, rfl⟩ := List.mem_map.mp hx
    have := hr.pos y hy
    simp
    omega
  rw [h1, h2]
  rfl
theorem srow_T {T : Nat → Option Fn} [Hf T 22 c22] [Hf T 24 c24] [Hf T 25 c25] [Hf T 56 c56] [Hf T 57 c57] {k : Nat} (hk : 13 ≤ k) {d : D} (hd : sml d = true) (h8 : dep d ≤ 10) {r : List Nat} (ht : tupD d = rowD r) (hr : GoodR r) : Phi T k 57 [.v d] = .ok (.v (rowD r)) [.v d] := by
  obtain ⟨k, rfl, hk⟩ := suc_of hk
  have e1 := tup_T (T := T) (k := k) (by omega) hd h8
  rw [ht] at e1
  have e2 := isrow_good (T := T) (k := k) (by omega) hr
  have e3 : biD .max (rowD r) = some (.v (.int (mxI (r.map fun (n : Nat) => (n : Int))))) := by
    rw [rowD_ints, bi_max_tup]
    have hne : (r.map fun (n : Nat) => (n : Int)) ≠ [] := by simpa using hr.ne
    generalize (r.map fun (n : Nat) => (n : Int)) = l at *
    cases l with
    | nil => exact absurd rfl hne
    | cons n ns =>
      have h1 : intsD ((n :: ns).map D.int) = some (n :: ns) := by
        have := intsD_map (fun x : Int => x) (n :: ns)
        simpa using this
      unfold maxI
      rw [h1]
      rfl
  have e4 : ¬ 1000000 < mxI (r.map fun (n : Nat) => (n : Int)) := by
    obtain ⟨h1, _⟩ := mxI_spec (l := r.map fun (n : Nat) => (n : Int)) (by simpa using hr.ne)
    obtain ⟨y, hy, e⟩ := List.mem_map.mp h1
    have := hr.le y hy
    omega
  have e5 := len_row r
  have e6 : ¬ (60 : Int) < r.length := by have := hr.len; omega
  rw [phi_c c57]
  generalize Phi T k = Φ at *
  generalize rowD r = RD at *
  simp [runF, c57, e1, e2, e3, e4, e5, e6]
theorem forL_findP {α : Type} {tg : Tg} {b : Env → O} (f : α → D) (hit : α → Bool) (ans : α → Sl) (I : Env → Prop) : ∀ (l : List α) (ρ : Env), I ρ →
    (∀ a ∈ l, ∀ ρ, I ρ → ∃ ρ1, asg tg (.v (f a)) ρ = some ρ1 ∧ ((hit a = true → ∃ ρ2, b ρ1 = .rt (ans a) ρ2 ∧ I ρ2) ∧ (hit a = false → ∃ ρ2, b ρ1 = .nx ρ2 ∧ I ρ2))) →
    ((∀ a, l.find? hit = some a → ∃ ρ2, forL tg b (l.map f) ρ = .rt (ans a) ρ2 ∧ I ρ2) ∧ (l.find? hit = none → ∃ ρ2, forL tg b (l.map f) ρ = .nx ρ2 ∧ I ρ2))
  | [], ρ, h, _ => ⟨fun a e => (by cases e), fun _ => ⟨ρ, rfl, h⟩⟩
  | x :: l, ρ, h, H => by
    obtain ⟨ρ1, e1, h1, h2⟩ := H x (List.mem_cons_self ..) ρ h
    rw [List.map_cons, forL, e1]
    dsimp only
    cases hx : hit x with
    | true =>
      obtain ⟨ρ2, e2, h3⟩ := h1 hx
      rw [List.find?_cons_of_pos hx, e2]
      exact ⟨fun a e => by injection e with e; subst e; exact ⟨ρ2, rfl, h3⟩, fun e => by cases e⟩
    | false =>
      obtain ⟨ρ2, e2, h3⟩ := h2 hx
      rw [List.find?_cons_of_neg (by rw [hx]; exact Bool.false_ne_true), e2]
      exact forL_findP f hit ans I l ρ2 h3 fun a ha => H a (List.mem_cons_of_mem _ ha)
def oi0_0T : Rf.T := (.and2 (.cmp .eq (.val (.bin .mod (.val (.bi .len (.pk 0))) (.pk 1))) (.val (.cst (.int 0)))) (.cmp .eq (.val (.bin .mul (.val (.slc (.pk 0) none (some (.var 1)))) (.val (.bin .fdiv (.val (.bi .len (.pk 0))) (.pk 1))))) (.pk 0)))
def oi0_0a0 : S := (.ret (.slc (.pk 0) none (some (.var 1))))
def oi0_0A : Ss := (.cons oi0_0a0 .nil)
def oi0_0B : Ss := .nil
def oi0_0 : S := (.ite oi0_0T oi0_0A oi0_0B)
def oi0B : Ss := (.cons oi0_0 .nil)
def oi0I : Ir := (.rng (.cst (.int 1)) (.bi .len (.pk 0)))
def oi0 : S := (.fr (.nm 1) oi0I oi0B)
def oi1 : S := (.ret (.var 0))
theorem oi_c : c58 = ⟨1, 2, [], (.cons oi0 (.cons oi1 .nil))⟩ := rfl
theorem once_T {T : Nat → Option Fn} [Hf T 58 c58] {k : Nat} (hk : 1 ≤ k) {r : List Nat} (h0 : r ≠ []) (hl : r.length ≤ 1000) : Phi T k 58 [.v (rowD r)] = .ok (.v (rowD (onceL r))) [.v (rowD r)] := by
  obtain ⟨k, rfl, hk⟩ := suc_of hk
  rw [phi_c c58, oi_c, ← once_eq h0]
  generalize Phi T k = Φ at *
  have hp := List.length_pos_iff.mpr h0
  have l1 := len_row r
  obtain ⟨g1, g2⟩ := forL_findP (tg := .nm 1) (b := evSs Φ oi0B) (fun n : Nat => D.int n) (rptB r) (fun n => .v (rowD (r.take n))) (fun ρ => ∃ x1, ρ = [some (.v (rowD r)), x1]) (List.range' 1 (r.length - 1)) [some (.v (rowD r)), none] ⟨none, rfl⟩ fun n hn ρ hI => by
    obtain ⟨x1, rfl⟩ := hI
    rw [List.mem_range'_1] at hn
    have s1 := (slD_row r n).1
    have hm : ((r.length : Int)).fmod n = ((r.length % n : Nat) : Int) := fmod_nat _ _
    have hd : ((r.length : Int)).fdiv n = ((r.length / n : Nat) : Int) := fdiv_nat _ _
    have n0 : ¬ n = 0 := by omega
    have n1 : n < 18446744073709551616 := by omega
    refine ⟨_, rfl, fun hh => ⟨[some (.v (rowD r)), some (.v (.int n))], ?_, _, rfl⟩, fun hh => ⟨[some (.v (rowD r)), some (.v (.int n))], ?_, _, rfl⟩⟩
    · unfold rptB at hh
      rw [Bool.and_eq_true, decide_eq_true_eq] at hh
      obtain ⟨h1, h2⟩ := hh
      have hq : 1 ≤ r.length / n := (Nat.one_le_div_iff (by omega)).mpr (by omega)
      have m1 := mul_row (r.take n) (r.length / n) hq (by have := Nat.div_le_self r.length n; omega) (by rw [List.length_take]; omega) (List.ne_nil_of_length_pos (by rw [List.length_take]; omega))
      have m2 := cmp_eq_row (manyL (r.length / n) (r.take n)) r
      have m3 : (manyL (r.length / n) (r.take n) == r) = true := h2
      rw [m3] at m2
      rw [h1] at hm
      simp only [Int.natCast_zero] at hm
      generalize rowD (manyL (r.length / n) (r.take n)) = RM at *
      generalize rowD (r.take n) = RT at *
      generalize rowD r = RD at *
      simp [oi0_0T, oi0_0a0, oi0_0A, oi0_0B, oi0_0, oi0B, oi0I, oi0, l1, s1, hm, hd, n0, n1, m1, m2, -Int.natCast_ediv]
    · unfold rptB at hh
      by_cases h1 : r.length % n = 0
      · rw [decide_eq_true h1, Bool.true_and] at hh
        have hq : 1 ≤ r.length / n := (Nat.one_le_div_iff (by omega)).mpr (by omega)
        have m1 := mul_row (r.take n) (r.length / n) hq (by have := Nat.div_le_self r.length n; omega) (by rw [List.length_take]; omega) (List.ne_nil_of_length_pos (by rw [List.length_take]; omega))
        have m2 := cmp_eq_row (manyL (r.length / n) (r.take n)) r
        have m3 : (manyL (r.length / n) (r.take n) == r) = false := hh
        rw [m3] at m2
        rw [h1] at hm
        simp only [Int.natCast_zero] at hm
        generalize rowD (manyL (r.length / n) (r.take n)) = RM at *
        generalize rowD (r.take n) = RT at *
        generalize rowD r = RD at *
        simp [oi0_0T, oi0_0a0, oi0_0A, oi0_0B, oi0_0, oi0B, oi0I, oi0, l1, s1, hm, hd, n0, n1, m1, m2, -Int.natCast_ediv]
      · have h1' : ¬ ((r.length % n : Nat) : Int) = 0 := by omega
        generalize rowD r = RD at *
        simp [oi0_0T, oi0_0a0, oi0_0A, oi0_0B, oi0_0, oi0B, oi0I, oi0, l1, hm, n0, h1, h1', -Int.natCast_emod]
  have hI : ∀ ρ, evIt Φ oi0I (some (.v (rowD r)) :: ρ) = .ok ((List.range' 1 (r.length - 1)).map fun n : Nat => D.int n) (some (.v (rowD r)) :: ρ) := fun ρ => by
    have := rng_1n r.length (by omega)
    simp [oi0I, this, l1]
  unfold onceP
  cases hb : (List.range' 1 (r.length - 1)).find? (rptB r) with
  | none =>
    obtain ⟨ρ2, e, x1, rfl⟩ := g2 hb
    have e9 : evS Φ oi0 [some (.v (rowD r)), none] = .nx [some (.v (rowD r)), x1] := by
      show evS Φ (.fr (.nm 1) oi0I oi0B) _ = _
      rw [evS, hI, R.stm_ok]
      exact e
    simp [runF, oi1, e9]
  | some n =>
    obtain ⟨ρ2, e, x1, rfl⟩ := g1 n hb
    have e9 : evS Φ oi0 [some (.v (rowD r)), none] = .rt (.v (rowD (r.take n))) [some (.v (rowD r)), x1] := by
      show evS Φ (.fr (.nm 1) oi0I oi0B) _ = _
      rw [evS, hI, R.stm_ok]
      exact e
    simp [runF, oi1, e9]
theorem turns_gen {Φ : PhiT} {it : Ir} {e : E} (hi : it = .rng1 (.bi .len (.pk 0))) (he : e = (.bin .add (.val (.slc (.pk 0) (some (.var 1)) none)) (.val (.slc (.pk 0) none (some (.var 1)))))) {r : List Nat} (hl : r.length ≤ 1000) : evE Φ (.lc [1] (.nm 1) it none e) [some (.v (rowD r)), none] = .ok (.o (.lst ((rots r).map rowD))) [some (.v (rowD r)), none] := by
  subst hi he
  unfold rots
  rw [List.map_map]
  refine lcm_ok (List.range' 0 r.length) (fun k => .int (k : Nat)) _ ?_ (by rw [List.length_range']; exact le_SZ (by omega)) (by simp) (by simp) fun j hj => ⟨.v (rowD (r.drop j ++ r.take j)), ?_, rfl⟩
  · have := rng_0n r.length (by omega)
    have l1 := len_row r
    simp [this, l1]
  · obtain ⟨s1, s2⟩ := slD_row r j
    have s3 := add_row (r.drop j) (r.take j) (by rw [List.length_drop, List.length_take]; exact le_SZ (by omega))
    generalize rowD (r.drop j ++ r.take j) = R3 at *
    generalize rowD (r.drop j) = R1 at *
    generalize rowD (r.take j) = R2 at *
    generalize rowD r = RD at *
    simp [s1, s2, s3]
theorem turns_T {T : Nat → Option Fn} [Hf T 59 c59] {k : Nat} (hk : 1 ≤ k) {r : List Nat} (hl : r.length ≤ 1000) : Phi T k 59 [.v (rowD r)] = .ok (.o (.lst ((rots r).map rowD))) [.v (rowD r)] := by
  obtain ⟨k, rfl, hk⟩ := suc_of hk
  rw [phi_c c59]
  generalize Phi T k = Φ at *
  have := turns_gen (Φ := Φ) rfl rfl hl
  unfold c59 runF
  simp only [List.length_cons, List.length_nil, if_true, fzP_cons, fzP_nil, List.contains_nil, Bool.false_eq_true, if_false, List.map_cons, List.map_nil, Nat.reduceAdd, Nat.reduceSub, List.replicate, List.cons_append, List.nil_append]
  rw [ss_c, evS, this]
  rfl
theorem lturns_T {T : Nat → Option Fn} [Hf T 68 c68] {k : Nat} (hk : 1 ≤ k) {r : List Nat} (hl : r.length ≤ 1000) : Phi T k 68 [.v (rowD r)] = .ok (.o (.lst ((rots r).map rowD))) [.v (rowD r)] := by
  obtain ⟨k, rfl, hk⟩ := suc_of hk
  rw [phi_c c68]
  generalize Phi T k = Φ at *
  have := turns_gen (Φ := Φ) rfl rfl hl
  unfold c68 runF
  simp only [List.length_cons, List.length_nil, if_true, fzP_cons, fzP_nil, List.contains_nil, Bool.false_eq_true, if_false, List.map_cons, List.map_nil, Nat.reduceAdd, Nat.reduceSub, List.replicate, List.cons_append, List.nil_append]
  rw [ss_c, evS, this]
  rfl
theorem once_le {r : List Nat} (h0 : r ≠ []) : (onceL r).length ≤ r.length := by rw [once_len h0]; exact per_le h0
theorem first_T {T : Nat → Option Fn} [Hf T 58 c58] [Hf T 59 c59] [Hf T 60 c60] {k : Nat} (hk : 2 ≤ k) {r : List Nat} (h0 : r ≠ []) (hl : r.length ≤ 1000) : Phi T k 60 [.v (rowD r)] = .ok (.v (rowD (firstN r))) [.v (rowD r)] := by
  obtain ⟨k, rfl, hk⟩ := suc_of hk
  have e1 := once_T (T := T) (k := k) (by omega) h0 hl
  have e2 := turns_T (T := T) (k := k) (by omega) (r := onceL r) (by have := once_le h0; omega)
  have e3 := bi_min_rows (rots_ne' (once_ne h0))
  rw [phi_c c60]
  generalize Phi T k = Φ at *
  unfold firstN
  generalize (rots (onceL r)).map rowD = RL at *
  simp [runF, c60, e1, e2, e3]
end Rf

/-! Pv7: rows that come round: the doors, the law's own, drawn rows. -/
namespace Rf
theorem ronce_T {T : Nat → Option Fn} [Hf T 22 c22] [Hf T 24 c24] [Hf T 25 c25] [Hf T 56 c56] [Hf T 57 c57] [Hf T 58 c58] [Hf T 61 c61] {k : Nat} (hk : 14 ≤ k) {d : D} (hd : sml d = true) (h8 : dep d ≤ 10) {r : List Nat} (ht : tupD d = rowD r) (hr : GoodR r) : Phi T k 61 [.v d] = .ok (.v (rowD (onceL r))) [.v d] := by
  obtain ⟨k, rfl, hk⟩ := suc_of hk
  have e1 := srow_T (T := T) (k := k) (by omega) hd h8 ht hr
  have e2 := once_T (T := T) (k := k) (by omega) hr.ne (by have := hr.len; omega)
  rw [phi_c c61]
  generalize Phi T k = Φ at *
  simp [runF, c61, e1, e2]
theorem rfirst_T {T : Nat → Option Fn} [Hf T 22 c22] [Hf T 24 c24] [Hf T 25 c25] [Hf T 56 c56] [Hf T 57 c57] [Hf T 58 c58] [Hf T 59 c59] [Hf T 60 c60] [Hf T 62 c62] {k : Nat} (hk : 14 ≤ k) {d : D} (hd : sml d = true) (h8 : dep d ≤ 10) {r : List Nat} (ht : tupD d = rowD r) (hr : GoodR r) : Phi T k 62 [.v d] = .ok (.v (rowD (firstN r))) [.v d] := by
  obtain ⟨k, rfl, hk⟩ := suc_of hk
  have e1 := srow_T (T := T) (k := k) (by omega) hd h8 ht hr
  have e2 := first_T (T := T) (k := k) (by omega) hr.ne (by have := hr.len; omega)
  rw [phi_c c62]
  generalize Phi T k = Φ at *
  simp [runF, c62, e1, e2]
theorem areone_T {T : Nat → Option Fn} [Hf T 22 c22] [Hf T 24 c24] [Hf T 25 c25] [Hf T 56 c56] [Hf T 57 c57] [Hf T 58 c58] [Hf T 59 c59] [Hf T 60 c60] [Hf T 63 c63] {k : Nat} (hk : 14 ≤ k) {d d' : D} (hd : sml d = true) (h8 : dep d ≤ 10) {r : List Nat} (ht : tupD d = rowD r) (hr : GoodR r) (hd' : sml d' = true) (h8' : dep d' ≤ 10) {r' : List Nat} (ht' : tupD d' = rowD r') (hr' : GoodR r') : Phi T k 63 [.v d, .v d'] = .ok (.v (.bl (firstN r == firstN r'))) [.v d, .v d'] := by
  obtain ⟨k, rfl, hk⟩ := suc_of hk
  have e1 := srow_T (T := T) (k := k) (by omega) hd h8 ht hr
  have e2 := first_T (T := T) (k := k) (by omega) hr.ne (by have := hr.len; omega)
  have e3 := srow_T (T := T) (k := k) (by omega) hd' h8' ht' hr'
  have e4 := first_T (T := T) (k := k) (by omega) hr'.ne (by have := hr'.len; omega)
  have e5 := cmp_eq_row (firstN r) (firstN r')
  rw [phi_c c63]
  generalize Phi T k = Φ at *
  simp [runF, c63, e1, e2, e3, e4, e5]
theorem twoway_T {T : Nat → Option Fn} [Hf T 22 c22] [Hf T 24 c24] [Hf T 25 c25] [Hf T 56 c56] [Hf T 57 c57] [Hf T 58 c58] [Hf T 59 c59] [Hf T 60 c60] [Hf T 65 c65] {k : Nat} (hk : 14 ≤ k) {d : D} (hd : sml d = true) (h8 : dep d ≤ 10) {r : List Nat} (ht : tupD d = rowD r) (hr : GoodR r) : Phi T k 65 [.v d] = .ok (.v (.bl (firstN r == firstN r.reverse))) [.v d] := by
  obtain ⟨k, rfl, hk⟩ := suc_of hk
  have e1 := srow_T (T := T) (k := k) (by omega) hd h8 ht hr
  have e2 := first_T (T := T) (k := k) (by omega) hr.ne (by have := hr.len; omega)
  have e4 := first_T (T := T) (k := k) (by omega) (r := r.reverse) (by simpa using hr.ne) (by rw [List.length_reverse]; have := hr.len; omega)
  have e5 := cmp_eq_row (firstN r) (firstN r.reverse)
  have e6 := rv_row r
  rw [phi_c c65]
  generalize Phi T k = Φ at *
  simp [runF, c65, e1, e2, e4, e5, e6]
/-- the place of a turn -/
def turnIx (r r' : List Nat) : Option Nat := (rots (onceL r)).findIdx? fun x => x == onceL r'
def turnD (r r' : List Nat) : D := if firstN r = firstN r' then .int ((turnIx r r').getD 0 : Nat) else .non
theorem turnIx_some {r r' : List Nat} (h0 : r ≠ []) (h0' : r' ≠ []) (h : firstN r = firstN r') : turnIx r r' = some ((turnIx r r').getD 0) := by
  have hm := mem_of_first (once_ne h0) (once_ne h0') h
  unfold turnIx
  cases e : (rots (onceL r)).findIdx? fun x => x == onceL r' with
  | none =>
    rw [List.findIdx?_eq_none_iff] at e
    have := e _ hm
    simp at this
  | some i => rfl
theorem ix_rows {l : List (List Nat)} {y : List Nat} {i : Nat} (h : l.findIdx? (fun x => x == y) = some i) : metD .index "list" (.lst (l.map rowD)) (rowD y) = some (.v (.int (i : Nat))) := by
  have h1 : eqOk (rowD y) (.lst (l.map rowD)) = true := by
    unfold eqOk
    have : min (dep (rowD y)) (dep (.lst (l.map rowD))) ≤ 64 := Nat.le_trans (Nat.min_le_left _ _) (by rw [dep_row]; decide)
    rw [pln_row, show pln (.lst (l.map rowD)) = true from plns_rows l, decide_eq_true this]
    rfl
  have h2 : ((l.map rowD).findIdx? fun x => peq x (rowD y)) = some i := by
    rw [List.findIdx?_map]
    rw [← h]
    congr 1
    funext x
    exact peq_row x y
  show (if eqOk (rowD y) (.lst (l.map rowD)) && decide (dep (rowD y) ≤ 60) && decide (deps (l.map rowD) ≤ 60) then ((l.map rowD).findIdx? fun x => peq x (rowD y)).map fun i => Sl.v (.int (i : Nat)) else none) = _
  rw [h1, h2, decide_eq_true (show dep (rowD y) ≤ 60 by rw [dep_row]; decide), decide_eq_true (Nat.le_trans (deps_rows l) (by decide : (1 : Nat) ≤ 60))]
  rfl
theorem turnb_T {T : Nat → Option Fn} [Hf T 22 c22] [Hf T 24 c24] [Hf T 25 c25] [Hf T 56 c56] [Hf T 57 c57] [Hf T 58 c58] [Hf T 59 c59] [Hf T 60 c60] [Hf T 64 c64] {k : Nat} (hk : 14 ≤ k) {d d' : D} (hd : sml d = true) (h8 : dep d ≤ 10) {r : List Nat} (ht : tupD d = rowD r) (hr : GoodR r) (hd' : sml d' = true) (h8' : dep d' ≤ 10) {r' : List Nat} (ht' : tupD d' = rowD r') (hr' : GoodR r') : Phi T k 64 [.v d, .v d'] = .ok (.v (turnD r r')) [.v d, .v d'] := by
  obtain ⟨k, rfl, hk⟩ := suc_of hk
  have e1 := srow_T (T := T) (k := k) (by omega) hd h8 ht hr
  have e2 := first_T (T := T) (k := k) (by omega) hr.ne (by have := hr.len; omega)
  have e3 := srow_T (T := T) (k := k) (by omega) hd' h8' ht' hr'
  have e4 := first_T (T := T) (k := k) (by omega) hr'.ne (by have := hr'.len; omega)
  have e5 := cmp_ne_row (firstN r) (firstN r')
  have e6 := once_T (T := T) (k := k) (by omega) hr.ne (by have := hr.len; omega)
  have e7 := once_T (T := T) (k := k) (by omega) hr'.ne (by have := hr'.len; omega)
  have e8 := turns_T (T := T) (k := k) (by omega) (r := onceL r) (by have := once_le hr.ne; have := hr.len; omega)
  rw [phi_c c64]
  unfold turnD
  by_cases hf : firstN r = firstN r'
  · rw [if_pos hf]
    have e9 := ix_rows (turnIx_some hr.ne hr'.ne hf)
    have e10 : (firstN r == firstN r') = true := by rw [hf]; simp
    have e11 : rcv .index (.lst ((rots (onceL r)).map rowD)) = some "list" := rfl
    rw [e10] at e5
    generalize Phi T k = Φ at *
    generalize (rots (onceL r)).map rowD = RL at *
    simp [runF, c64, e1, e2, e3, e4, e5, e6, e7, e8, e9, e11]
  · rw [if_neg hf]
    have e10 : (firstN r == firstN r') = false := by rw [beq_eq_false_iff_ne]; exact hf
    rw [e10] at e5
    generalize Phi T k = Φ at *
    simp [runF, c64, e1, e2, e3, e4, e5]
def lo0L0I : Ir := (.rng (.cst (.int 1)) (.bin .add (.val (.bi .len (.pk 0))) (.val (.cst (.int 1)))))
def lo0L0C : Rf.T := (.cmp .eq (.val (.bin .add (.val (.slc (.pk 0) (some (.var 2)) none)) (.val (.slc (.pk 0) none (some (.var 2)))))) (.pk 0))
def lo0L0E : E := (.var 2)
def lo0L0 : E := (.lc [2] (.nm 2) lo0L0I (some lo0L0C) lo0L0E)
def lo0 : S := (.asg (.nm 1) lo0L0)
def lo1 : S := (.ret (.slc (.pk 0) none (some (.ix (.pk 1) (.val (.cst (.int 0)))))))
theorem lo_c : c69 = ⟨1, 3, [], (.cons lo0 (.cons lo1 .nil))⟩ := rfl
theorem lonce_T {T : Nat → Option Fn} [Hf T 69 c69] {k : Nat} (hk : 1 ≤ k) {r : List Nat} (h0 : r ≠ []) (hl : r.length ≤ 1000) : Phi T k 69 [.v (rowD r)] = .ok (.v (rowD (onceL r))) [.v (rowD r)] := by
  obtain ⟨k, rfl, hk⟩ := suc_of hk
  rw [phi_c c69, lo_c]
  generalize Phi T k = Φ at *
  have l1 := len_row r
  have f1 : evE Φ lo0L0 [some (.v (rowD r)), none, none] = .ok (.o (.lst (((List.range' 1 r.length).filter (fixB r)).map fun j => .int (j : Nat)))) [some (.v (rowD r)), none, none] := by
    refine lcmf_ok (List.range' 1 r.length) (fun k => .int (k : Nat)) _ _ ?_ (by rw [List.length_range']; exact le_SZ (by omega)) (by simp) (by simp) fun j hj => ⟨?_, fun _ => ⟨.v (.int (j : Nat)), by simp [lo0L0E], rfl⟩⟩
    · have := rng_1n (r.length + 1) (by omega)
      simp only [Int.natCast_add, Int.natCast_one, Nat.add_sub_cancel] at this
      simp [lo0L0I, this, l1]
    · obtain ⟨s1, s2⟩ := slD_row r j
      have s3 := add_row (r.drop j) (r.take j) (by rw [List.length_drop, List.length_take]; exact le_SZ (by omega))
      have s4 := cmp_eq_row (r.drop j ++ r.take j) r
      unfold fixB
      generalize rowD (r.drop j ++ r.take j) = R3 at *
      generalize rowD (r.drop j) = R1 at *
      generalize rowD (r.take j) = R2 at *
      generalize rowD r = RD at *
      simp [lo0L0C, s1, s2, s3, s4]
  have hp : ∃ l, (List.range' 1 r.length).filter (fixB r) = perN r :: l := by
    have h1 := per_pos h0
    unfold perN at *
    cases h : (List.range' 1 r.length).filter (fixB r) with
    | nil => rw [h] at h1; simp at h1
    | cons p l => exact ⟨l, rfl⟩
  obtain ⟨l, hl2⟩ := hp
  rw [hl2, List.map_cons] at f1
  have s1 := (slD_row r (perN r)).1
  unfold onceL
  generalize rowD (r.take (perN r)) = R1 at *
  generalize (l.map fun j : Nat => D.int j) = L at *
  simp [runF, lo0, lo1, f1, s1]
theorem lfirst_T {T : Nat → Option Fn} [Hf T 68 c68] [Hf T 69 c69] [Hf T 70 c70] {k : Nat} (hk : 2 ≤ k) {r : List Nat} (h0 : r ≠ []) (hl : r.length ≤ 1000) : Phi T k 70 [.v (rowD r)] = .ok (.v (rowD (firstN r))) [.v (rowD r)] := by
  obtain ⟨k, rfl, hk⟩ := suc_of hk
  have e1 := lonce_T (T := T) (k := k) (by omega) h0 hl
  have hle := once_le h0
  have e2 := lturns_T (T := T) (k := k) (by omega) (r := onceL r) (by omega)
  obtain ⟨t, e3⟩ := sorted_rows (rots_ne' (once_ne h0)) (fun x hx => by
    obtain ⟨j, _, rfl⟩ := rots_mem.mp hx
    exact List.ne_nil_of_length_pos (by rw [sq_len]; exact List.length_pos_iff.mpr (once_ne h0))) (by unfold rots; rw [List.length_map, List.length_range']; exact le_SZ (by omega))
  rw [phi_c c70]
  generalize Phi T k = Φ at *
  unfold firstN
  generalize (rots (onceL r)).map rowD = RL at *
  simp [runF, c70, e1, e2, e3]
def sr0L0I : Ir := (.rng1 (.bin .add (.val (.cst (.int 1))) (.val (.call 10 (.ref 0 (.ref 1 .nil)) []))))
def sr0L0E : E := (.bin .add (.val (.cst (.int 1))) (.val (.call 10 (.ref 0 (.ref 2 .nil)) [])))
def sr0L0 : E := (.lc [3] (.nm 3) sr0L0I none sr0L0E)
def sr0 : S := (.ret (.bi .tuple (.val sr0L0)))
theorem sr_c : c67 = ⟨3, 4, [], (.cons sr0 .nil)⟩ := rfl
theorem srow_draw {T : Nat → Option Fn} [Hf T 10 c10] [Hf T 67 c67] {k : Nat} (hk : 2 ≤ k) {z : Nat} {t : D} (ht : Tn z t) (hz : z < 700000000) {long most : Nat} (hl : 1 ≤ long) (hl2 : long ≤ 60) (hm : 1 ≤ most) (hm2 : most ≤ 1000000) :
    ∃ (r : List Nat) (t' : D), Phi T k 67 [.o t, .v (.int long), .v (.int most)] = .ok (.v (rowD r)) [.o t', .v (.int long), .v (.int most)] ∧ Tn (z + 61) t' ∧ r ≠ [] ∧ r.length ≤ long ∧ (∀ x ∈ r, 1 ≤ x ∧ x ≤ most) := by
  obtain ⟨k, rfl, hk⟩ := suc_of hk
  obtain ⟨n, t1, e1, ht1, hn⟩ := take_T (T := T) (k := k) (by omega) ht (by omega) (m := (long : Int)) (by omega) (by omega)
  have hit : evIt (Phi T k) sr0L0I [some (.o t), some (.v (.int long)), some (.v (.int most)), none] = .ok ((List.range' 0 (1 + n)).map fun k => D.int (k : Nat)) [some (.o t1), some (.v (.int long)), some (.v (.int most)), none] := by
    generalize Phi T k = Φ at *
    have := rng_0n (1 + n) (by omega)
    simp only [Int.natCast_add, Int.natCast_one] at this
    simp [sr0L0I, e1, this]
  obtain ⟨ds, t', e2, h1, h2, h3⟩ := lc_draw (Φ := Phi T k) (j := 3) (it := sr0L0I) (e := sr0L0E) (fun d => ∃ x : Nat, d = .int x ∧ 1 ≤ x ∧ x ≤ most) 1 0 (by decide) (by simp) hit (by rw [List.length_map, List.length_range']; exact le_SZ (by omega)) (by simp) (by simp) ht1 (fun x _ z' t hz' ht => by
    obtain ⟨b, t2, e3, ht2, hb⟩ := take_T (T := T) (k := k) (by omega) ht (by rw [List.length_map, List.length_range'] at hz'; omega) (m := (most : Int)) (by omega) (by omega)
    refine ⟨.v (.int ((1 + b : Nat) : Int)), t2, ?_, ⟨1 + b, rfl, by omega, by omega⟩, ht2⟩
    generalize Phi T k = Φ at *
    simp [sr0L0E, e3])
  rw [List.length_map, List.length_range'] at h1 h3
  have hr : ∃ r : List Nat, ds = r.map (fun n => D.int (n : Nat)) ∧ ∀ x ∈ r, 1 ≤ x ∧ x ≤ most := by
    clear e2 h1 h3
    induction ds with
    | nil => exact ⟨[], rfl, fun x h => nomatch h⟩
    | cons d ds ih =>
      obtain ⟨x, rfl, hx⟩ := h2 d (List.mem_cons_self ..)
      obtain ⟨r, rfl, hr⟩ := ih fun y hy => h2 y (List.mem_cons_of_mem _ hy)
      exact ⟨x :: r, rfl, allC hx hr⟩
  obtain ⟨r, rfl, hr⟩ := hr
  rw [List.length_map] at h1
  refine ⟨r, t', ?_, h3.up (by omega), fun h => by rw [h] at h1; simp at h1; omega, by omega, hr⟩
  have e2 : evE (Phi T k) sr0L0 [some (.o t), some (.v (.int long)), some (.v (.int most)), none] = .ok (.o (.lst (r.map fun n => D.int (n : Nat)))) [some (.o t'), some (.v (.int long)), some (.v (.int most)), none] := e2
  rw [phi_c c67, sr_c]
  generalize Phi T k = Φ at *
  unfold rowD
  generalize (r.map fun n : Nat => D.int n) = RL at *
  simp [runF, sr0, e2]
end Rf

namespace Rf.k03
def c22 : Fc := ⟨1, 1, [], (.cons (.ret (.and2 (.isk .int (.pk 0)) (.tst (.not (.tr (.val (.isk .bool (.pk 0)))))))) .nil)⟩
def c24 : Fc := ⟨1, 2, [], (.cons (.ret (.and2 (.isk .tup (.pk 0)) (.bi .all (.val (.lc [1] (.nm 1) (.sq (.var 0)) none (.call 22 (.ref 1 .nil) [])))))) .nil)⟩
def c25 : Fc := ⟨1, 2, [], (.cons (.ret (.ite (.tr (.val (.isk .seq (.pk 0)))) (.bi .tuple (.val (.lc [1] (.nm 1) (.sq (.var 0)) none (.call 25 (.ref 1 .nil) [])))) (.var 0))) .nil)⟩
def c56 : Fc := ⟨1, 1, [], (.cons (.ret (.and2 (.call 24 (.ref 0 .nil) []) (.and2 (.tst (.cmp .gt (.val (.bi .len (.pk 0))) (.val (.cst (.int 0))))) (.tst (.cmp .gt (.val (.bi .min (.pk 0))) (.val (.cst (.int 0)))))))) .nil)⟩
def c57 : Fc := ⟨1, 2, [], (.cons (.asg (.nm 1) (.call 25 (.ref 0 .nil) [])) (.cons (.ite (.or2 (.not (.tr (.val (.call 56 (.ref 1 .nil) [])))) (.or2 (.cmp .gt (.val (.bi .len (.pk 1))) (.val (.cst (.int 60)))) (.cmp .gt (.val (.bi .max (.pk 1))) (.val (.cst (.int 1000000)))))) (.cons (.raise 1) .nil) .nil) (.cons (.ret (.mv 1)) .nil)))⟩
def c58 : Fc := ⟨1, 2, [], (.cons (.fr (.nm 1) (.rng (.cst (.int 1)) (.bi .len (.pk 0))) (.cons (.ite (.and2 (.cmp .eq (.val (.bin .mod (.val (.bi .len (.pk 0))) (.pk 1))) (.val (.cst (.int 0)))) (.cmp .eq (.val (.bin .mul (.val (.slc (.pk 0) none (some (.var 1)))) (.val (.bin .fdiv (.val (.bi .len (.pk 0))) (.pk 1))))) (.pk 0))) (.cons (.ret (.slc (.pk 0) none (some (.var 1)))) .nil) .nil) .nil)) (.cons (.ret (.var 0)) .nil))⟩
def c59 : Fc := ⟨1, 2, [], (.cons (.ret (.lc [1] (.nm 1) (.rng1 (.bi .len (.pk 0))) none (.bin .add (.val (.slc (.pk 0) (some (.var 1)) none)) (.val (.slc (.pk 0) none (some (.var 1))))))) .nil)⟩
def c60 : Fc := ⟨1, 1, [], (.cons (.ret (.bi .min (.val (.call 59 (.val (.call 58 (.ref 0 .nil) []) .nil) [])))) .nil)⟩
def c61 : Fc := ⟨1, 1, [], (.cons (.ret (.call 58 (.val (.call 57 (.ref 0 .nil) []) .nil) [])) .nil)⟩
def c62 : Fc := ⟨1, 1, [], (.cons (.ret (.call 60 (.val (.call 57 (.ref 0 .nil) []) .nil) [])) .nil)⟩
def c63 : Fc := ⟨2, 4, [], (.cons (.par [2, 3] (.cons (.call 57 (.ref 0 .nil) []) (.cons (.call 57 (.ref 1 .nil) []) .nil))) (.cons (.ret (.tst (.cmp .eq (.val (.call 60 (.ref 2 .nil) [])) (.val (.call 60 (.ref 3 .nil) []))))) .nil))⟩
def c64 : Fc := ⟨2, 4, [], (.cons (.par [2, 3] (.cons (.call 57 (.ref 0 .nil) []) (.cons (.call 57 (.ref 1 .nil) []) .nil))) (.cons (.ite (.cmp .ne (.val (.call 60 (.ref 2 .nil) [])) (.val (.call 60 (.ref 3 .nil) []))) (.cons (.ret (.cst .non)) .nil) .nil) (.cons (.ret (.met .index (.val (.call 59 (.val (.call 58 (.ref 2 .nil) []) .nil) [])) (.val (.call 58 (.ref 3 .nil) [])))) .nil)))⟩
def c65 : Fc := ⟨1, 2, [], (.cons (.asg (.nm 1) (.call 57 (.ref 0 .nil) [])) (.cons (.ret (.tst (.cmp .eq (.val (.call 60 (.ref 1 .nil) [])) (.val (.call 60 (.val (.rvs (.pk 1) none) .nil) []))))) .nil))⟩
def c66 : Fc := ⟨2, 3, [], (.cons (.asg (.nm 2) (.ite (.cmp .lt (.pk 1) (.val (.bi .len (.pk 0)))) (.ix (.pk 0) (.pk 1)) (.cst (.int 0)))) (.cons (.ret (.lst (.cons (.bin .mul (.val (.bi .abs (.pk 2))) (.val (.bi .int (.val (.tst (.cmp .ge (.val (.bi .abs (.pk 2))) (.val (.bin .pow (.val (.cst (.int 10))) (.val (.cst (.int 18))))))))))) (.cons (.bin .add (.val (.bin .add (.val (.bin .mod (.val (.bi .int (.pk 2))) (.val (.cst (.int 2305843009213693951))))) (.val (.bin .mul (.val (.cst (.int 39373))) (.pk 1))))) (.val (.cst (.int 24823003)))) (.cons (.cst (.int 0)) .nil))))) .nil))⟩
def c10 : Fc := ⟨2, 6, [], (.cons (.ite (.cmp .gt (.val (.ix (.pk 0) (.val (.cst (.int 0))))) (.val (.cst (.int 0)))) (.cons (.asg (.nm 5) (.bin .mod (.val (.bi .int (.val (.ix (.pk 0) (.val (.cst (.int 0))))))) (.pk 1))) (.cons (.stx 0 (.cst (.int 0)) (.bin .fdiv (.val (.ix (.pk 0) (.val (.cst (.int 0))))) (.pk 1))) (.cons (.ret (.mv 5)) .nil))) .nil) (.cons (.stx 0 (.cst (.int 2)) (.bin .add (.val (.ix (.pk 0) (.val (.cst (.int 2))))) (.val (.cst (.int 1))))) (.cons (.asg (.nm 2) (.bin .mod (.val (.bi .int (.val (.bin .mul (.val (.bin .add (.val (.ix (.pk 0) (.val (.cst (.int 1))))) (.val (.bin .mul (.val (.cst (.int 48271))) (.val (.ix (.pk 0) (.val (.cst (.int 2))))))))) (.val (.bin .add (.val (.cst (.int 39373))) (.val (.ix (.pk 0) (.val (.cst (.int 2))))))))))) (.val (.cst (.int 2147483647))))) (.cons (.asg (.nm 3) (.bin .add (.val (.bin .mod (.val (.bi .int (.pk 2))) (.val (.cst (.int 40009))))) (.val (.cst (.int 7))))) (.cons (.asg (.nm 4) (.bin .mod (.val (.bi .int (.val (.bin .mul (.val (.bin .add (.val (.bin .add (.pk 2) (.val (.ix (.pk 0) (.val (.cst (.int 2))))))) (.val (.bin .fdiv (.val (.ix (.pk 0) (.val (.cst (.int 1))))) (.val (.cst (.int 1000003))))))) (.pk 3))))) (.val (.cst (.int 2147483629))))) (.cons (.ret (.bin .mod (.val (.bi .int (.val (.bin .fdiv (.val (.bin .mod (.val (.bi .int (.val (.bin .add (.val (.bin .mul (.pk 4) (.val (.cst (.int 48271))))) (.pk 2))))) (.val (.cst (.int 2147483587))))) (.val (.cst (.int 64))))))) (.pk 1))) .nil))))))⟩
def c11 : Fc := ⟨2, 6, [], (.cons (.asg (.nm 2) (.or2 (.bi .list (.val (.slc (.pk 0) none (some (.var 1))))) (.lst (.cons (.cst (.int 0)) .nil)))) (.cons (.fr (.tup [(.nm 3), (.nm 4)]) (.enum (.slc (.pk 0) (some (.var 1)) (some (.cst (.int 63))))) (.cons (.asg (.nm 5) (.bin .mod (.val (.bi .int (.pk 3))) (.pk 1))) (.cons (.stx 2 (.var 5) (.bin .add (.val (.ix (.pk 2) (.pk 5))) (.val (.bin .mul (.pk 4) (.val (.bin .add (.pk 3) (.val (.cst (.int 2))))))))) .nil))) (.cons (.ret (.mv 2)) .nil)))⟩
def c12 : Fc := ⟨2, 2, [], (.cons (.ret (.ix (.pk 1) (.val (.call 10 (.ref 0 (.val (.bi .len (.pk 1)) .nil)) [])))) .nil)⟩
def c40 : Fc := ⟨1, 2, [], (.cons (.ret (.ite (.tr (.val (.isk .seq (.pk 0)))) (.lc [1] (.nm 1) (.sq (.var 0)) none (.call 40 (.ref 1 .nil) [])) (.var 0))) .nil)⟩
def c13 : Fc := ⟨2, 4, [], (.cons (.ite (.not (.tr (.val (.isk .seq (.pk 1))))) (.cons (.ret (.var 1)) .nil) .nil) (.cons (.asg (.nm 2) (.lc [3] (.nm 3) (.sq (.var 1)) none (.call 13 (.ref 0 (.ref 3 .nil)) []))) (.cons (.ret (.ite (.cmp .eq (.val (.call 10 (.ref 0 (.val (.cst (.int 2)) .nil)) [])) (.val (.cst (.int 0)))) (.var 2) (.bi .tuple (.pk 2)))) .nil)))⟩
def c14 : Fc := ⟨2, 4, [], (.cons (.ite (.tr (.val (.isk .seq (.pk 1)))) (.cons (.ite (.or2 (.cmp .ne (.val (.isk .lst (.pk 0))) (.val (.isk .lst (.pk 1)))) (.cmp .ne (.val (.isk .tup (.pk 0))) (.val (.isk .tup (.pk 1))))) (.cons (.ret (.cst (.bl false))) .nil) .nil) (.cons (.ret (.and2 (.tst (.cmp .eq (.val (.bi .len (.pk 0))) (.val (.bi .len (.pk 1))))) (.bi .all (.val (.lc [2, 3] (.tup [(.nm 2), (.nm 3)]) (.zip (.var 0) (.var 1)) none (.call 14 (.ref 2 (.ref 3 .nil)) [])))))) .nil)) .nil) (.cons (.ite (.isN (.pk 1)) (.cons (.ret (.tst (.isN (.pk 0)))) .nil) .nil) (.cons (.ite (.tr (.val (.isk .bs (.pk 1)))) (.cons (.ret (.and2 (.tst (.cmp .eq (.val (.isk .bool (.pk 0))) (.val (.isk .bool (.pk 1))))) (.and2 (.tst (.cmp .eq (.val (.isk .str (.pk 0))) (.val (.isk .str (.pk 1))))) (.tst (.cmp .eq (.pk 0) (.pk 1)))))) .nil) .nil) (.cons (.ret (.and2 (.isk .int (.pk 0)) (.and2 (.tst (.not (.tr (.val (.isk .bool (.pk 0)))))) (.tst (.cmp .eq (.pk 0) (.pk 1)))))) .nil))))⟩
def c41 : Fc := ⟨2, 2, [], (.cons (.ite (.cmp .eq (.val (.bi .len (.pk 1))) (.val (.cst (.int 1)))) (.cons (.ret (.callv 0 (.val (.ix (.pk 1) (.val (.cst (.int 0)))) .nil))) .nil) .nil) (.cons (.ite (.cmp .eq (.val (.bi .len (.pk 1))) (.val (.cst (.int 2)))) (.cons (.ret (.callv 0 (.val (.ix (.pk 1) (.val (.cst (.int 0)))) (.val (.ix (.pk 1) (.val (.cst (.int 1)))) .nil)))) .nil) .nil) (.cons (.ite (.cmp .eq (.val (.bi .len (.pk 1))) (.val (.cst (.int 3)))) (.cons (.ret (.callv 0 (.val (.ix (.pk 1) (.val (.cst (.int 0)))) (.val (.ix (.pk 1) (.val (.cst (.int 1)))) (.val (.ix (.pk 1) (.val (.cst (.int 2)))) .nil))))) .nil) .nil) (.cons (.ite (.cmp .eq (.val (.bi .len (.pk 1))) (.val (.cst (.int 4)))) (.cons (.ret (.callv 0 (.val (.ix (.pk 1) (.val (.cst (.int 0)))) (.val (.ix (.pk 1) (.val (.cst (.int 1)))) (.val (.ix (.pk 1) (.val (.cst (.int 2)))) (.val (.ix (.pk 1) (.val (.cst (.int 3)))) .nil)))))) .nil) .nil) (.cons (.ret (.callv 0 (.val (.ix (.pk 1) (.val (.cst (.int 0)))) (.val (.ix (.pk 1) (.val (.cst (.int 1)))) (.val (.ix (.pk 1) (.val (.cst (.int 2)))) (.val (.ix (.pk 1) (.val (.cst (.int 3)))) (.val (.ix (.pk 1) (.val (.cst (.int 4)))) .nil))))))) .nil)))))⟩
def c42 : Fc := ⟨2, 5, [], (.cons (.tr (.cons (.ex (.call 41 (.ref 0 (.ref 1 .nil)) [])) .nil) [(1, (.str [117, 110, 102, 105, 116])), (3, (.str [99, 97, 110, 32, 110, 111, 116])), (4, (.str [109, 97, 110, 121]))]) (.cons (.ret (.cst (.str [116, 111, 108, 100]))) .nil))⟩
def c67 : Fc := ⟨3, 4, [], (.cons (.ret (.bi .tuple (.val (.lc [3] (.nm 3) (.rng1 (.bin .add (.val (.cst (.int 1))) (.val (.call 10 (.ref 0 (.ref 1 .nil)) [])))) none (.bin .add (.val (.cst (.int 1))) (.val (.call 10 (.ref 0 (.ref 2 .nil)) []))))))) .nil)⟩
def c68 : Fc := ⟨1, 2, [], (.cons (.ret (.lc [1] (.nm 1) (.rng1 (.bi .len (.pk 0))) none (.bin .add (.val (.slc (.pk 0) (some (.var 1)) none)) (.val (.slc (.pk 0) none (some (.var 1))))))) .nil)⟩
def c69 : Fc := ⟨1, 3, [], (.cons (.asg (.nm 1) (.lc [2] (.nm 2) (.rng (.cst (.int 1)) (.bin .add (.val (.bi .len (.pk 0))) (.val (.cst (.int 1))))) (some (.cmp .eq (.val (.bin .add (.val (.slc (.pk 0) (some (.var 2)) none)) (.val (.slc (.pk 0) none (some (.var 2)))))) (.pk 0))) (.var 2))) (.cons (.ret (.slc (.pk 0) none (some (.ix (.pk 1) (.val (.cst (.int 0))))))) .nil))⟩
def c70 : Fc := ⟨1, 1, [], (.cons (.ret (.ix (.val (.bi .sorted (.val (.call 68 (.val (.call 69 (.ref 0 .nil) []) .nil) [])))) (.val (.cst (.int 0))))) .nil)⟩
def c71 : Fc := ⟨1, 14, [], (.cons (.asg (.nm 1) (.call 67 (.ref 0 (.val (.cst (.int 10)) (.val (.call 12 (.ref 0 (.val (.lst (.cons (.cst (.int 1)) (.cons (.cst (.int 2)) (.cons (.cst (.int 3)) (.cons (.bin .pow (.val (.cst (.int 10))) (.val (.cst (.int 6)))) .nil))))) .nil)) []) .nil))) [])) (.cons (.asg (.nm 2) (.bin .mul (.pk 1) (.val (.bin .add (.val (.cst (.int 1))) (.val (.call 10 (.ref 0 (.val (.cst (.int 6)) .nil)) [])))))) (.cons (.asg (.nm 3) (.call 10 (.ref 0 (.val (.bi .len (.pk 2)) .nil)) [])) (.cons (.asg (.nm 4) (.bin .add (.val (.slc (.pk 2) (some (.var 3)) none)) (.val (.slc (.pk 2) none (some (.var 3)))))) (.cons (.asg (.nm 5) (.call 69 (.ref 1 .nil) [])) (.cons (.asg (.nm 6) (.lst (.cons (.call 61 (.val (.call 13 (.ref 0 (.ref 2 .nil)) []) .nil) []) (.cons (.call 62 (.ref 4 .nil) []) (.cons (.call 63 (.ref 1 (.val (.call 40 (.ref 4 .nil) []) .nil)) []) (.cons (.call 56 (.ref 2 .nil) []) (.cons (.call 56 (.val (.bi .list (.pk 2)) .nil) []) .nil))))))) (.cons (.ite (.not (.tr (.val (.call 14 (.ref 6 (.val (.lst (.cons (.var 5) (.cons (.call 70 (.ref 1 .nil) []) (.cons (.cst (.bl true)) (.cons (.cst (.bl true)) (.cons (.cst (.bl false)) .nil)))))) .nil)) [])))) (.cons (.ret (.cst (.bl false))) .nil) .nil) (.cons (.asg (.nm 7) (.call 64 (.ref 2 (.ref 4 .nil)) [])) (.cons (.ite (.or2 (.isN (.pk 7)) (.not (.tr (.val (.call 14 (.ref 7 (.val (.ix (.val (.lc [13] (.nm 13) (.rng1 (.bi .len (.pk 5))) (some (.cmp .eq (.val (.bin .add (.val (.slc (.pk 5) (some (.var 13)) none)) (.val (.slc (.pk 5) none (some (.var 13)))))) (.val (.call 69 (.ref 4 .nil) [])))) (.var 13))) (.val (.cst (.int 0)))) .nil)) []))))) (.cons (.ret (.cst (.bl false))) .nil) .nil) (.cons (.asg (.nm 8) (.call 67 (.ref 0 (.val (.cst (.int 10)) (.val (.cst (.int 2)) .nil))) [])) (.cons (.asg (.nm 9) (.tst (.cmp .eq (.val (.call 70 (.ref 1 .nil) [])) (.val (.call 70 (.ref 8 .nil) []))))) (.cons (.asg (.nm 6) (.lst (.cons (.call 63 (.ref 1 (.ref 8 .nil)) []) (.cons (.tst (.not (.isN (.val (.call 64 (.ref 1 (.ref 8 .nil)) []))))) (.cons (.call 65 (.ref 1 .nil) []) (.cons (.call 63 (.ref 1 (.val (.rvs (.pk 1) none) .nil)) []) .nil)))))) (.cons (.asg (.nm 10) (.tst (.cmp .eq (.val (.call 70 (.ref 1 .nil) [])) (.val (.call 70 (.val (.rvs (.pk 1) none) .nil) []))))) (.cons (.ite (.not (.tr (.val (.call 14 (.ref 6 (.val (.lst (.cons (.var 9) (.cons (.var 9) (.cons (.var 10) (.cons (.var 10) .nil))))) .nil)) [])))) (.cons (.ret (.cst (.bl false))) .nil) .nil) (.cons (.asg (.nm 11) (.lst (.cons (.tup .nil) (.cons (.bin .add (.pk 1) (.val (.tup (.cons (.cst (.int 0)) .nil)))) (.cons (.bin .add (.pk 1) (.val (.tup (.cons (.neg (.cst (.int 1))) .nil)))) (.cons (.bin .add (.pk 1) (.val (.tup (.cons (.cst (.bl true)) .nil)))) (.cons (.cst .non) (.cons (.cst (.str [49])) (.cons (.tup (.cons (.var 1) .nil)) (.cons (.bin .add (.pk 1) (.val (.tup (.cons (.cst (.str [49])) .nil)))) .nil)))))))))) (.cons (.ret (.call 14 (.val (.lc [12] (.nm 12) (.sq (.var 11)) none (.call 56 (.ref 12 .nil) [])) (.val (.bin .mul (.val (.lst (.cons (.cst (.bl false)) .nil))) (.val (.cst (.int 8)))) .nil)) [])) .nil))))))))))))))))⟩
def c72 : Fc := ⟨1, 6, [], (.cons (.asg (.nm 1) (.call 66 (.val (.call 11 (.ref 0 (.val (.cst (.int 1)) .nil)) []) (.val (.cst (.int 0)) .nil)) [])) (.cons (.fr (.nm 2) (.sq (.tup (.cons (.cst (.fn 61)) (.cons (.cst (.fn 62)) (.cons (.cst (.fn 65)) .nil))))) (.cons (.ite (.cmp .ne (.val (.lc [4] (.nm 4) (.sq (.tup (.cons (.cst .non) (.cons (.tup .nil) (.cons (.tup (.cons (.cst (.int 0)) .nil)) (.cons (.bin .mul (.val (.tup (.cons (.cst (.int 1)) .nil))) (.val (.cst (.int 61)))) (.cons (.tup (.cons (.bin .add (.val (.bin .pow (.val (.cst (.int 10))) (.val (.cst (.int 6))))) (.val (.cst (.int 1)))) .nil)) (.cons (.cst (.str [49])) (.cons (.tup (.cons (.cst (.int 1)) (.cons (.cst (.bl true)) .nil))) .nil))))))))) none (.call 42 (.ref 2 (.val (.tup (.cons (.var 4) .nil)) .nil)) []))) (.val (.bin .mul (.val (.lst (.cons (.cst (.str [117, 110, 102, 105, 116])) .nil))) (.val (.cst (.int 7)))))) (.cons (.ret (.cst (.bl false))) .nil) .nil) .nil)) (.cons (.ite (.cmp .ne (.val (.lc [2] (.nm 2) (.sq (.tup (.cons (.cst (.fn 63)) (.cons (.cst (.fn 64)) .nil)))) none (.call 42 (.ref 2 (.val (.tup (.cons (.tup (.cons (.cst (.int 1)) .nil)) (.cons (.tup .nil) .nil))) .nil)) []))) (.val (.bin .mul (.val (.lst (.cons (.cst (.str [117, 110, 102, 105, 116])) .nil))) (.val (.cst (.int 2)))))) (.cons (.ret (.cst (.bl false))) .nil) .nil) (.cons (.asg (.nm 3) (.lst (.cons (.call 56 (.val (.tup (.cons (.bin .pow (.val (.cst (.int 10))) (.val (.cst (.int 9)))) .nil)) .nil) []) (.cons (.call 61 (.val (.bin .mul (.val (.tup (.cons (.cst (.int 5)) .nil))) (.val (.cst (.int 60)))) .nil) []) (.cons (.call 62 (.val (.tup (.cons (.cst (.int 3)) (.cons (.cst (.int 1)) (.cons (.cst (.int 2)) .nil)))) .nil) []) (.cons (.call 64 (.val (.tup (.cons (.cst (.int 1)) .nil)) (.val (.tup (.cons (.cst (.int 1)) (.cons (.cst (.int 1)) .nil))) .nil)) []) (.cons (.call 65 (.val (.tup (.cons (.cst (.int 1)) (.cons (.cst (.int 2)) (.cons (.cst (.int 2)) (.cons (.cst (.int 1)) (.cons (.cst (.int 3)) .nil)))))) .nil) []) .nil))))))) (.cons (.ret (.and2 (.call 14 (.ref 3 (.val (.lst (.cons (.cst (.bl true)) (.cons (.tup (.cons (.cst (.int 5)) .nil)) (.cons (.tup (.cons (.cst (.int 1)) (.cons (.cst (.int 2)) (.cons (.cst (.int 3)) .nil)))) (.cons (.cst (.int 0)) (.cons (.cst (.bl true)) .nil)))))) .nil)) []) (.bi .all (.val (.lc [5] (.nm 5) (.rng1 (.cst (.int 5))) none (.call 71 (.ref 1 .nil) [])))))) .nil)))))⟩
def tb : List (Nat × Fn) := [(22, .py c22), (24, .py c24), (25, .py c25), (56, .py c56), (57, .py c57), (58, .py c58), (59, .py c59), (60, .py c60), (61, .py c61), (62, .py c62), (63, .py c63), (64, .py c64), (65, .py c65), (66, .py c66), (10, .py c10), (11, .py c11), (12, .py c12), (40, .py c40), (13, .py c13), (14, .py c14), (41, .py c41), (42, .py c42), (67, .py c67), (68, .py c68), (69, .py c69), (70, .py c70), (71, .py c71), (72, .py c72)]
def T (f : Nat) : Option Fn := tb.lookup f
end Rf.k03

namespace Rf.k03
open PySem PySem.Spec L2
def tbl : List (Str × GI) := [tr "is_number" (.fn 22 ["thing"] [] []),
  tr "are_numbers" (.fn 24 ["thing"] [] []),
  tr "tupled" (.fn 25 ["value"] [] []),
  tr "is_row" (.fn 56 ["thing"] [] [0]),
  tr "sure_row" (.fn 57 ["value"] [] []),
  tr "once_in" (.fn 58 ["row"] [] []),
  tr "turns_in" (.fn 59 ["row"] [] []),
  tr "first_in" (.fn 60 ["row"] [] []),
  tr "row_once" (.fn 61 ["row"] [] [0]),
  tr "first_turn" (.fn 62 ["row"] [] [0]),
  tr "are_one_row" (.fn 63 ["one", "other"] [] [0]),
  tr "turn_between" (.fn 64 ["one", "other"] [] [0]),
  tr "is_two_way" (.fn 65 ["row"] [] []),
  tr "_law_box" (.fn 66 ["script", "k"] [] []),
  tr "_law_take" (.fn 10 ["tin", "below_so"] [] []),
  tr "_law_cells" (.fn 11 ["script", "most_so"] [] []),
  tr "_law_of" (.fn 12 ["tin", "goods_so"] [] []),
  tr "_law_lists" (.fn 40 ["matter"] [] []),
  tr "_law_mixed" (.fn 13 ["tin", "matter"] [] []),
  tr "_law_same" (.fn 14 ["got", "due"] [] []),
  tr "_law_call" (.fn 41 ["door_so", "goods_so"] [] []),
  tr "_law_slip" (.fn 42 ["door_so", "goods_so"] [] []),
  tr "_law_some_row" (.fn 67 ["tin", "long_so", "most_so"] [] []),
  tr "_law_turns" (.fn 68 ["row_so"] [] []),
  tr "_law_once" (.fn 69 ["row_so"] [] []),
  tr "_law_first" (.fn 70 ["row_so"] [] []),
  tr "_law_right" (.fn 71 ["tin"] [] []),
  tr "law" (.fn 72 ["script"] [] []),
  tr "MOST_ROW" (.cst (.int 60)),
  tr "MOST_NUMBER" (.cst (.int 1000000)),
  tr "CanNot" (.exc 3),
  tr "TooMany" (.exc 4),
  tr "Unfit" (.exc 1),
  tr "ValueError" (.blt),
  tr "abs" (.blt),
  tr "all" (.blt),
  tr "bool" (.blt),
  tr "enumerate" (.blt),
  tr "int" (.blt),
  tr "isinstance" (.blt),
  tr "len" (.blt),
  tr "list" (.blt),
  tr "max" (.blt),
  tr "min" (.blt),
  tr "range" (.blt),
  tr "sorted" (.blt),
  tr "str" (.blt),
  tr "tuple" (.blt),
  tr "zip" (.blt)]
def e22 : Ent := { x := "is_number", f := 22, i := 5, ps := ["thing"], dfl := [], N := ["thing"], st := [], ks := [] }
def e24 : Ent := { x := "are_numbers", f := 24, i := 6, ps := ["thing"], dfl := [], N := ["thing", "own"], st := [], ks := [] }
def e25 : Ent := { x := "tupled", f := 25, i := 7, ps := ["value"], dfl := [], N := ["value", "own"], st := [], ks := [] }
def e56 : Ent := { x := "is_row", f := 56, i := 11, ps := ["thing"], dfl := [], N := ["thing"], st := [], ks := [0] }
def e57 : Ent := { x := "sure_row", f := 57, i := 12, ps := ["value"], dfl := [], N := ["value", "own"], st := [], ks := [] }
def e58 : Ent := { x := "once_in", f := 58, i := 13, ps := ["row"], dfl := [], N := ["row", "long"], st := [], ks := [] }
def e59 : Ent := { x := "turns_in", f := 59, i := 14, ps := ["row"], dfl := [], N := ["row", "place"], st := [], ks := [] }
def e60 : Ent := { x := "first_in", f := 60, i := 15, ps := ["row"], dfl := [], N := ["row"], st := [], ks := [] }
def e61 : Ent := { x := "row_once", f := 61, i := 16, ps := ["row"], dfl := [], N := ["row"], st := [], ks := [0] }
def e62 : Ent := { x := "first_turn", f := 62, i := 17, ps := ["row"], dfl := [], N := ["row"], st := [], ks := [0] }
def e63 : Ent := { x := "are_one_row", f := 63, i := 18, ps := ["one", "other"], dfl := [], N := ["one", "other", "near", "far"], st := [], ks := [0] }
def e64 : Ent := { x := "turn_between", f := 64, i := 19, ps := ["one", "other"], dfl := [], N := ["one", "other", "near", "far"], st := [], ks := [0] }
def e65 : Ent := { x := "is_two_way", f := 65, i := 20, ps := ["row"], dfl := [], N := ["row", "own"], st := [], ks := [] }
def e66 : Ent := { x := "_law_box", f := 66, i := 22, ps := ["script", "k"], dfl := [], N := ["script", "k", "bit_so"], st := [], ks := [] }
def e10 : Ent := { x := "_law_take", f := 10, i := 23, ps := ["tin", "below_so"], dfl := [], N := ["tin", "below_so", "once_so", "wide_so", "twice_so", "drawn_so"], st := [], ks := [] }
def e11 : Ent := { x := "_law_cells", f := 11, i := 24, ps := ["script", "most_so"], dfl := [], N := ["script", "most_so", "cells_so", "k", "bit_so", "at_so"], st := [], ks := [] }
def e12 : Ent := { x := "_law_of", f := 12, i := 25, ps := ["tin", "goods_so"], dfl := [], N := ["tin", "goods_so"], st := [], ks := [] }
def e40 : Ent := { x := "_law_lists", f := 40, i := 26, ps := ["matter"], dfl := [], N := ["matter", "bit"], st := [], ks := [] }
def e13 : Ent := { x := "_law_mixed", f := 13, i := 27, ps := ["tin", "matter"], dfl := [], N := ["tin", "matter", "row_so", "bit"], st := [], ks := [] }
def e14 : Ent := { x := "_law_same", f := 14, i := 28, ps := ["got", "due"], dfl := [], N := ["got", "due", "mine", "its"], st := [], ks := [] }
def e41 : Ent := { x := "_law_call", f := 41, i := 29, ps := ["door_so", "goods_so"], dfl := [], N := ["door_so", "goods_so"], st := [], ks := [] }
def e42 : Ent := { x := "_law_slip", f := 42, i := 30, ps := ["door_so", "goods_so"], dfl := [], N := ["door_so", "goods_so", "slip_so", "slip_c", "slip_m"], st := [], ks := [] }
def e67 : Ent := { x := "_law_some_row", f := 67, i := 31, ps := ["tin", "long_so", "most_so"], dfl := [], N := ["tin", "long_so", "most_so", "k"], st := [], ks := [] }
def e68 : Ent := { x := "_law_turns", f := 68, i := 32, ps := ["row_so"], dfl := [], N := ["row_so", "k"], st := [], ks := [] }
def e69 : Ent := { x := "_law_once", f := 69, i := 33, ps := ["row_so"], dfl := [], N := ["row_so", "goods_so", "k"], st := [], ks := [] }
def e70 : Ent := { x := "_law_first", f := 70, i := 34, ps := ["row_so"], dfl := [], N := ["row_so"], st := [], ks := [] }
def e71 : Ent := { x := "_law_right", f := 71, i := 35, ps := ["tin"], dfl := [], N := ["tin", "row_so", "many_so", "k", "turned_so", "once_so", "got", "place_so", "other_so", "same", "back", "bents_so", "own", "j"], st := [], ks := [] }
def e72 : Ent := { x := "law", f := 72, i := 36, ps := ["script"], dfl := [], N := ["script", "tin", "door_so", "got", "own", "lap"], st := [], ks := [] }
def ents : List Ent := [e22, e24, e25, e56, e57, e58, e59, e60, e61, e62, e63, e64, e65, e66, e10, e11, e12, e40, e13, e14, e41, e42, e67, e68, e69, e70, e71, e72]
def body : List Stmt := PySem.Challenge.pw_belowthree_k03_whole_rows_that_come_roun.main.body
def excs : List (Nat × Str) := [(3, "CanNot"), (4, "TooMany"), (1, "Unfit")]
noncomputable abbrev K0 (p : PySem.Params) : PySem.W.Frag := hd.heap_39 p
theorem b22 : BindP body e22 := bind_n 1 rfl rfl (by intro u0 kV doc pm an cdv ct; kernel_rfl)
theorem k22 (p : PySem.Params) : EntOk (K0 p) body e22 ∧ e22.ps.length ≤ e22.N.length := entOk_by (by kernel_rfl) (by kernel_rfl) b22
theorem g22 : e22.code tbl body = some c22.body := by kernel_rfl
theorem b24 : BindP body e24 := bind_n 1 rfl rfl (by intro u0 kV doc pm an cdv ct; kernel_rfl)
theorem k24 (p : PySem.Params) : EntOk (K0 p) body e24 ∧ e24.ps.length ≤ e24.N.length := entOk_by (by kernel_rfl) (by kernel_rfl) b24
theorem g24 : e24.code tbl body = some c24.body := by kernel_rfl
theorem b25 : BindP body e25 := bind_n 1 rfl rfl (by intro u0 kV doc pm an cdv ct; kernel_rfl)
theorem k25 (p : PySem.Params) : EntOk (K0 p) body e25 ∧ e25.ps.length ≤ e25.N.length := entOk_by (by kernel_rfl) (by kernel_rfl) b25
theorem g25 : e25.code tbl body = some c25.body := by kernel_rfl
theorem b56 : BindP body e56 := bind_n 1 rfl rfl (by intro u0 kV doc pm an cdv ct; kernel_rfl) (.inr ⟨rfl, allC0 (kb_of 0 1 (by intro kV doc pm an cdv ct u0; show _ = _; kernel_rfl)) ( allE0)⟩)
theorem k56 (p : PySem.Params) : EntOk (K0 p) body e56 ∧ e56.ps.length ≤ e56.N.length := entOk_by (by kernel_rfl) (by kernel_rfl) b56
theorem g56 : e56.code tbl body = some c56.body := by kernel_rfl
theorem b57 : BindP body e57 := bind_n 1 rfl rfl (by intro u0 kV doc pm an cdv ct; kernel_rfl)
theorem k57 (p : PySem.Params) : EntOk (K0 p) body e57 ∧ e57.ps.length ≤ e57.N.length := entOk_by (by kernel_rfl) (by kernel_rfl) b57
theorem g57 : e57.code tbl body = some c57.body := by kernel_rfl
theorem b58 : BindP body e58 := bind_n 1 rfl rfl (by intro u0 kV doc pm an cdv ct; kernel_rfl)
theorem k58 (p : PySem.Params) : EntOk (K0 p) body e58 ∧ e58.ps.length ≤ e58.N.length := entOk_by (by kernel_rfl) (by kernel_rfl) b58
theorem g58 : e58.code tbl body = some c58.body := by kernel_rfl
theorem b59 : BindP body e59 := bind_n 1 rfl rfl (by intro u0 kV doc pm an cdv ct; kernel_rfl)
theorem k59 (p : PySem.Params) : EntOk (K0 p) body e59 ∧ e59.ps.length ≤ e59.N.length := entOk_by (by kernel_rfl) (by kernel_rfl) b59
theorem g59 : e59.code tbl body = some c59.body := by kernel_rfl
theorem b60 : BindP body e60 := bind_n 1 rfl rfl (by intro u0 kV doc pm an cdv ct; kernel_rfl)
theorem k60 (p : PySem.Params) : EntOk (K0 p) body e60 ∧ e60.ps.length ≤ e60.N.length := entOk_by (by kernel_rfl) (by kernel_rfl) b60
theorem g60 : e60.code tbl body = some c60.body := by kernel_rfl
theorem b61 : BindP body e61 := bind_n 1 rfl rfl (by intro u0 kV doc pm an cdv ct; kernel_rfl) (.inr ⟨rfl, allC0 (kb_of 0 1 (by intro kV doc pm an cdv ct u0; show _ = _; kernel_rfl)) ( allE0)⟩)
theorem k61 (p : PySem.Params) : EntOk (K0 p) body e61 ∧ e61.ps.length ≤ e61.N.length := entOk_by (by kernel_rfl) (by kernel_rfl) b61
theorem g61 : e61.code tbl body = some c61.body := by kernel_rfl
theorem b62 : BindP body e62 := bind_n 1 rfl rfl (by intro u0 kV doc pm an cdv ct; kernel_rfl) (.inr ⟨rfl, allC0 (kb_of 0 1 (by intro kV doc pm an cdv ct u0; show _ = _; kernel_rfl)) ( allE0)⟩)
theorem k62 (p : PySem.Params) : EntOk (K0 p) body e62 ∧ e62.ps.length ≤ e62.N.length := entOk_by (by kernel_rfl) (by kernel_rfl) b62
theorem g62 : e62.code tbl body = some c62.body := by kernel_rfl
theorem b63 : BindP body e63 := bind_n 2 rfl rfl (by intro u0 u1 kV doc pm an cdv ct; kernel_rfl) (.inr ⟨rfl, allC0 (kb_of 0 2 (by intro kV doc pm an cdv ct u0 u1; show _ = _; kernel_rfl)) ( allE0)⟩)
theorem k63 (p : PySem.Params) : EntOk (K0 p) body e63 ∧ e63.ps.length ≤ e63.N.length := entOk_by (by kernel_rfl) (by kernel_rfl) b63
theorem g63 : e63.code tbl body = some c63.body := by kernel_rfl
theorem b64 : BindP body e64 := bind_n 2 rfl rfl (by intro u0 u1 kV doc pm an cdv ct; kernel_rfl) (.inr ⟨rfl, allC0 (kb_of 0 2 (by intro kV doc pm an cdv ct u0 u1; show _ = _; kernel_rfl)) ( allE0)⟩)
theorem k64 (p : PySem.Params) : EntOk (K0 p) body e64 ∧ e64.ps.length ≤ e64.N.length := entOk_by (by kernel_rfl) (by kernel_rfl) b64
theorem g64 : e64.code tbl body = some c64.body := by kernel_rfl
theorem b65 : BindP body e65 := bind_n 1 rfl rfl (by intro u0 kV doc pm an cdv ct; kernel_rfl)
theorem k65 (p : PySem.Params) : EntOk (K0 p) body e65 ∧ e65.ps.length ≤ e65.N.length := entOk_by (by kernel_rfl) (by kernel_rfl) b65
theorem g65 : e65.code tbl body = some c65.body := by kernel_rfl
theorem b66 : BindP body e66 := bind_n 2 rfl rfl (by intro u0 u1 kV doc pm an cdv ct; kernel_rfl)
theorem k66 (p : PySem.Params) : EntOk (K0 p) body e66 ∧ e66.ps.length ≤ e66.N.length := entOk_by (by kernel_rfl) (by kernel_rfl) b66
theorem g66 : e66.code tbl body = some c66.body := by kernel_rfl
theorem b10 : BindP body e10 := bind_n 2 rfl rfl (by intro u0 u1 kV doc pm an cdv ct; kernel_rfl)
theorem k10 (p : PySem.Params) : EntOk (K0 p) body e10 ∧ e10.ps.length ≤ e10.N.length := entOk_by (by kernel_rfl) (by kernel_rfl) b10
theorem g10 : e10.code tbl body = some c10.body := by kernel_rfl
theorem b11 : BindP body e11 := bind_n 2 rfl rfl (by intro u0 u1 kV doc pm an cdv ct; kernel_rfl)
theorem k11 (p : PySem.Params) : EntOk (K0 p) body e11 ∧ e11.ps.length ≤ e11.N.length := entOk_by (by kernel_rfl) (by kernel_rfl) b11
theorem g11 : e11.code tbl body = some c11.body := by kernel_rfl
theorem b12 : BindP body e12 := bind_n 2 rfl rfl (by intro u0 u1 kV doc pm an cdv ct; kernel_rfl)
theorem k12 (p : PySem.Params) : EntOk (K0 p) body e12 ∧ e12.ps.length ≤ e12.N.length := entOk_by (by kernel_rfl) (by kernel_rfl) b12
theorem g12 : e12.code tbl body = some c12.body := by kernel_rfl
theorem b40 : BindP body e40 := bind_n 1 rfl rfl (by intro u0 kV doc pm an cdv ct; kernel_rfl)
theorem k40 (p : PySem.Params) : EntOk (K0 p) body e40 ∧ e40.ps.length ≤ e40.N.length := entOk_by (by kernel_rfl) (by kernel_rfl) b40
theorem g40 : e40.code tbl body = some c40.body := by kernel_rfl
theorem b13 : BindP body e13 := bind_n 2 rfl rfl (by intro u0 u1 kV doc pm an cdv ct; kernel_rfl)
theorem k13 (p : PySem.Params) : EntOk (K0 p) body e13 ∧ e13.ps.length ≤ e13.N.length := entOk_by (by kernel_rfl) (by kernel_rfl) b13
theorem g13 : e13.code tbl body = some c13.body := by kernel_rfl
theorem b14 : BindP body e14 := bind_n 2 rfl rfl (by intro u0 u1 kV doc pm an cdv ct; kernel_rfl)
theorem k14 (p : PySem.Params) : EntOk (K0 p) body e14 ∧ e14.ps.length ≤ e14.N.length := entOk_by (by kernel_rfl) (by kernel_rfl) b14
theorem g14 : e14.code tbl body = some c14.body := by kernel_rfl
theorem b41 : BindP body e41 := bind_n 2 rfl rfl (by intro u0 u1 kV doc pm an cdv ct; kernel_rfl)
theorem k41 (p : PySem.Params) : EntOk (K0 p) body e41 ∧ e41.ps.length ≤ e41.N.length := entOk_by (by kernel_rfl) (by kernel_rfl) b41
theorem g41 : e41.code tbl body = some c41.body := by kernel_rfl
theorem b42 : BindP body e42 := bind_n 2 rfl rfl (by intro u0 u1 kV doc pm an cdv ct; kernel_rfl)
theorem k42 (p : PySem.Params) : EntOk (K0 p) body e42 ∧ e42.ps.length ≤ e42.N.length := entOk_by (by kernel_rfl) (by kernel_rfl) b42
theorem g42 : e42.code tbl body = some c42.body := by kernel_rfl
theorem b67 : BindP body e67 := bind_n 3 rfl rfl (by intro u0 u1 u2 kV doc pm an cdv ct; kernel_rfl)
theorem k67 (p : PySem.Params) : EntOk (K0 p) body e67 ∧ e67.ps.length ≤ e67.N.length := entOk_by (by kernel_rfl) (by kernel_rfl) b67
theorem g67 : e67.code tbl body = some c67.body := by kernel_rfl
theorem b68 : BindP body e68 := bind_n 1 rfl rfl (by intro u0 kV doc pm an cdv ct; kernel_rfl)
theorem k68 (p : PySem.Params) : EntOk (K0 p) body e68 ∧ e68.ps.length ≤ e68.N.length := entOk_by (by kernel_rfl) (by kernel_rfl) b68
theorem g68 : e68.code tbl body = some c68.body := by kernel_rfl
theorem b69 : BindP body e69 := bind_n 1 rfl rfl (by intro u0 kV doc pm an cdv ct; kernel_rfl)
theorem k69 (p : PySem.Params) : EntOk (K0 p) body e69 ∧ e69.ps.length ≤ e69.N.length := entOk_by (by kernel_rfl) (by kernel_rfl) b69
theorem g69 : e69.code tbl body = some c69.body := by kernel_rfl
theorem b70 : BindP body e70 := bind_n 1 rfl rfl (by intro u0 kV doc pm an cdv ct; kernel_rfl)
theorem k70 (p : PySem.Params) : EntOk (K0 p) body e70 ∧ e70.ps.length ≤ e70.N.length := entOk_by (by kernel_rfl) (by kernel_rfl) b70
theorem g70 : e70.code tbl body = some c70.body := by kernel_rfl
theorem b71 : BindP body e71 := bind_n 1 rfl rfl (by intro u0 kV doc pm an cdv ct; kernel_rfl)
theorem k71 (p : PySem.Params) : EntOk (K0 p) body e71 ∧ e71.ps.length ≤ e71.N.length := entOk_by (by kernel_rfl) (by kernel_rfl) b71
theorem g71 : e71.code tbl body = some c71.body := by kernel_rfl
theorem b72 : BindP body e72 := bind_n 1 rfl rfl (by intro u0 kV doc pm an cdv ct; kernel_rfl)
theorem k72 (p : PySem.Params) : EntOk (K0 p) body e72 ∧ e72.ps.length ≤ e72.N.length := entOk_by (by kernel_rfl) (by kernel_rfl) b72
theorem g72 : e72.code tbl body = some c72.body := by kernel_rfl
theorem eo (p : PySem.Params) : ∀ e ∈ ents, EntOk (K0 p) body e ∧ e.ps.length ≤ e.N.length := all_cons (k22 p) ( all_cons (k24 p) ( all_cons (k25 p) ( all_cons (k56 p) ( all_cons (k57 p) ( all_cons (k58 p) ( all_cons (k59 p) ( all_cons (k60 p) ( all_cons (k61 p) ( all_cons (k62 p) ( all_cons (k63 p) ( all_cons (k64 p) ( all_cons (k65 p) ( all_cons (k66 p) ( all_cons (k10 p) ( all_cons (k11 p) ( all_cons (k12 p) ( all_cons (k40 p) ( all_cons (k13 p) ( all_cons (k14 p) ( all_cons (k41 p) ( all_cons (k42 p) ( all_cons (k67 p) ( all_cons (k68 p) ( all_cons (k69 p) ( all_cons (k70 p) ( all_cons (k71 p) ( all_cons (k72 p) ( all_nil ))))))))))))))))))))))))))))
theorem co : ∀ e ∈ ents, ∃ c, e.code tbl body = some c ∧ T e.f = some (.py ⟨e.ps.length, e.N.length, e.st, c⟩) := all_cons ⟨c22.body, g22, by kernel_rfl⟩ ( all_cons ⟨c24.body, g24, by kernel_rfl⟩ ( all_cons ⟨c25.body, g25, by kernel_rfl⟩ ( all_cons ⟨c56.body, g56, by kernel_rfl⟩ ( all_cons ⟨c57.body, g57, by kernel_rfl⟩ ( all_cons ⟨c58.body, g58, by kernel_rfl⟩ ( all_cons ⟨c59.body, g59, by kernel_rfl⟩ ( all_cons ⟨c60.body, g60, by kernel_rfl⟩ ( all_cons ⟨c61.body, g61, by kernel_rfl⟩ ( all_cons ⟨c62.body, g62, by kernel_rfl⟩ ( all_cons ⟨c63.body, g63, by kernel_rfl⟩ ( all_cons ⟨c64.body, g64, by kernel_rfl⟩ ( all_cons ⟨c65.body, g65, by kernel_rfl⟩ ( all_cons ⟨c66.body, g66, by kernel_rfl⟩ ( all_cons ⟨c10.body, g10, by kernel_rfl⟩ ( all_cons ⟨c11.body, g11, by kernel_rfl⟩ ( all_cons ⟨c12.body, g12, by kernel_rfl⟩ ( all_cons ⟨c40.body, g40, by kernel_rfl⟩ ( all_cons ⟨c13.body, g13, by kernel_rfl⟩ ( all_cons ⟨c14.body, g14, by kernel_rfl⟩ ( all_cons ⟨c41.body, g41, by kernel_rfl⟩ ( all_cons ⟨c42.body, g42, by kernel_rfl⟩ ( all_cons ⟨c67.body, g67, by kernel_rfl⟩ ( all_cons ⟨c68.body, g68, by kernel_rfl⟩ ( all_cons ⟨c69.body, g69, by kernel_rfl⟩ ( all_cons ⟨c70.body, g70, by kernel_rfl⟩ ( all_cons ⟨c71.body, g71, by kernel_rfl⟩ ( all_cons ⟨c72.body, g72, by kernel_rfl⟩ ( all_nil ))))))))))))))))))))))))))))
theorem rx (p : PySem.Params) : xxB (K0 p) excs = true := by kernel_rfl
theorem ro (p : PySem.Params) : (tbl.all fun r => rowB (K0 p) ents excs r.1 r.2) = true := by kernel_rfl

theorem po (p : PySem.Params) : ProgOk (K0 p) body ents tbl T (faOf (K0 p) ents) (caOf (K0 p) excs) :=
  progOk_by (by decide) (eo p) (ro p) (rx p) fun e h => .inl (co e h)
theorem law_in : e72 ∈ ents := by
  have : ents[ents.length - 1]? = some e72 := by kernel_rfl
  exact List.mem_of_getElem? this
end Rf.k03

namespace Rf.k03.Q
open Rf.k03
instance i10 : Hf T 10 Rf.c10 := ⟨by kernel_rfl⟩
instance i11 : Hf T 11 Rf.c11 := ⟨by kernel_rfl⟩
instance i12 : Hf T 12 Rf.c12 := ⟨by kernel_rfl⟩
instance i13 : Hf T 13 Rf.c13 := ⟨by kernel_rfl⟩
instance i14 : Hf T 14 Rf.c14 := ⟨by kernel_rfl⟩
instance i22 : Hf T 22 Rf.c22 := ⟨by kernel_rfl⟩
instance i24 : Hf T 24 Rf.c24 := ⟨by kernel_rfl⟩
instance i25 : Hf T 25 Rf.c25 := ⟨by kernel_rfl⟩
instance i40 : Hf T 40 Rf.c40 := ⟨by kernel_rfl⟩
instance i41 : Hf T 41 Rf.c41 := ⟨by kernel_rfl⟩
instance i42 : Hf T 42 Rf.c42 := ⟨by kernel_rfl⟩
instance i56 : Hf T 56 Rf.c56 := ⟨by kernel_rfl⟩
instance i57 : Hf T 57 Rf.c57 := ⟨by kernel_rfl⟩
instance i58 : Hf T 58 Rf.c58 := ⟨by kernel_rfl⟩
instance i59 : Hf T 59 Rf.c59 := ⟨by kernel_rfl⟩
instance i60 : Hf T 60 Rf.c60 := ⟨by kernel_rfl⟩
instance i61 : Hf T 61 Rf.c61 := ⟨by kernel_rfl⟩
instance i62 : Hf T 62 Rf.c62 := ⟨by kernel_rfl⟩
instance i63 : Hf T 63 Rf.c63 := ⟨by kernel_rfl⟩
instance i64 : Hf T 64 Rf.c64 := ⟨by kernel_rfl⟩
instance i65 : Hf T 65 Rf.c65 := ⟨by kernel_rfl⟩
instance i66 : Hf T 66 c66 := ⟨by kernel_rfl⟩
instance i67 : Hf T 67 Rf.c67 := ⟨by kernel_rfl⟩
instance i68 : Hf T 68 Rf.c68 := ⟨by kernel_rfl⟩
instance i69 : Hf T 69 Rf.c69 := ⟨by kernel_rfl⟩
instance i70 : Hf T 70 Rf.c70 := ⟨by kernel_rfl⟩
instance i71 : Hf T 71 c71 := ⟨by kernel_rfl⟩
def r0 : S := (.asg (.nm 1) (.call 67 (.ref 0 (.val (.cst (.int 10)) (.val (.call 12 (.ref 0 (.val (.lst (.cons (.cst (.int 1)) (.cons (.cst (.int 2)) (.cons (.cst (.int 3)) (.cons (.bin .pow (.val (.cst (.int 10))) (.val (.cst (.int 6)))) .nil))))) .nil)) []) .nil))) []))
def r1 : S := (.asg (.nm 2) (.bin .mul (.pk 1) (.val (.bin .add (.val (.cst (.int 1))) (.val (.call 10 (.ref 0 (.val (.cst (.int 6)) .nil)) []))))))
def r2 : S := (.asg (.nm 3) (.call 10 (.ref 0 (.val (.bi .len (.pk 2)) .nil)) []))
def r3 : S := (.asg (.nm 4) (.bin .add (.val (.slc (.pk 2) (some (.var 3)) none)) (.val (.slc (.pk 2) none (some (.var 3))))))
def r4 : S := (.asg (.nm 5) (.call 69 (.ref 1 .nil) []))
def r5 : S := (.asg (.nm 6) (.lst (.cons (.call 61 (.val (.call 13 (.ref 0 (.ref 2 .nil)) []) .nil) []) (.cons (.call 62 (.ref 4 .nil) []) (.cons (.call 63 (.ref 1 (.val (.call 40 (.ref 4 .nil) []) .nil)) []) (.cons (.call 56 (.ref 2 .nil) []) (.cons (.call 56 (.val (.bi .list (.pk 2)) .nil) []) .nil)))))))
def r6T : Rf.T := (.not (.tr (.val (.call 14 (.ref 6 (.val (.lst (.cons (.var 5) (.cons (.call 70 (.ref 1 .nil) []) (.cons (.cst (.bl true)) (.cons (.cst (.bl true)) (.cons (.cst (.bl false)) .nil)))))) .nil)) []))))
def r6a0 : S := (.ret (.cst (.bl false)))
def r6A : Ss := (.cons r6a0 .nil)
def r6B : Ss := .nil
def r6 : S := (.ite r6T r6A r6B)
def r7 : S := (.asg (.nm 7) (.call 64 (.ref 2 (.ref 4 .nil)) []))
def r8L0I : Ir := (.rng1 (.bi .len (.pk 5)))
def r8L0C : Rf.T := (.cmp .eq (.val (.bin .add (.val (.slc (.pk 5) (some (.var 13)) none)) (.val (.slc (.pk 5) none (some (.var 13)))))) (.val (.call 69 (.ref 4 .nil) [])))
def r8L0E : E := (.var 13)
def r8L0 : E := (.lc [13] (.nm 13) r8L0I (some r8L0C) r8L0E)
def r8T : Rf.T := (.or2 (.isN (.pk 7)) (.not (.tr (.val (.call 14 (.ref 7 (.val (.ix (.val r8L0) (.val (.cst (.int 0)))) .nil)) [])))))
def r8a0 : S := (.ret (.cst (.bl false)))
def r8A : Ss := (.cons r8a0 .nil)
def r8B : Ss := .nil
def r8 : S := (.ite r8T r8A r8B)
def r9 : S := (.asg (.nm 8) (.call 67 (.ref 0 (.val (.cst (.int 10)) (.val (.cst (.int 2)) .nil))) []))
def r10 : S := (.asg (.nm 9) (.tst (.cmp .eq (.val (.call 70 (.ref 1 .nil) [])) (.val (.call 70 (.ref 8 .nil) [])))))
def r11 : S := (.asg (.nm 6) (.lst (.cons (.call 63 (.ref 1 (.ref 8 .nil)) []) (.cons (.tst (.not (.isN (.val (.call 64 (.ref 1 (.ref 8 .nil)) []))))) (.cons (.call 65 (.ref 1 .nil) []) (.cons (.call 63 (.ref 1 (.val (.rvs (.pk 1) none) .nil)) []) .nil))))))
def r12 : S := (.asg (.nm 10) (.tst (.cmp .eq (.val (.call 70 (.ref 1 .nil) [])) (.val (.call 70 (.val (.rvs (.pk 1) none) .nil) [])))))
def r13T : Rf.T := (.not (.tr (.val (.call 14 (.ref 6 (.val (.lst (.cons (.var 9) (.cons (.var 9) (.cons (.var 10) (.cons (.var 10) .nil))))) .nil)) []))))
def r13a0 : S := (.ret (.cst (.bl false)))
def r13A : Ss := (.cons r13a0 .nil)
def r13B : Ss := .nil
def r13 : S := (.ite r13T r13A r13B)
def r14 : S := (.asg (.nm 11) (.lst (.cons (.tup .nil) (.cons (.bin .add (.pk 1) (.val (.tup (.cons (.cst (.int 0)) .nil)))) (.cons (.bin .add (.pk 1) (.val (.tup (.cons (.neg (.cst (.int 1))) .nil)))) (.cons (.bin .add (.pk 1) (.val (.tup (.cons (.cst (.bl true)) .nil)))) (.cons (.cst .non) (.cons (.cst (.str [49])) (.cons (.tup (.cons (.var 1) .nil)) (.cons (.bin .add (.pk 1) (.val (.tup (.cons (.cst (.str [49])) .nil)))) .nil))))))))))
def r15L0I : Ir := (.sq (.var 11))
def r15L0E : E := (.call 56 (.ref 12 .nil) [])
def r15L0 : E := (.lc [12] (.nm 12) r15L0I none r15L0E)
def r15 : S := (.ret (.call 14 (.val r15L0 (.val (.bin .mul (.val (.lst (.cons (.cst (.bl false)) .nil))) (.val (.cst (.int 8)))) .nil)) []))
theorem r_c : c71 = ⟨1, 14, [], (.cons r0 (.cons r1 (.cons r2 (.cons r3 (.cons r4 (.cons r5 (.cons r6 (.cons r7 (.cons r8 (.cons r9 (.cons r10 (.cons r11 (.cons r12 (.cons r13 (.cons r14 (.cons r15 .nil))))))))))))))))⟩ := rfl
theorem cnts_ints : ∀ xs : List Int, cnts (xs.map D.int) = 0
  | [] => rfl
  | x :: xs => by rw [List.map_cons, cnts, cnts_ints xs]; rfl
theorem cnt_row (r : List Nat) : cnt (rowD r) = 1 := by rw [rowD_ints, cnt, cnts_ints]
theorem many_mem {m : Nat} {r : List Nat} {x : Nat} (h : x ∈ manyL m r) : x ∈ r := by
  unfold manyL at h
  obtain ⟨l, hl, hx⟩ := List.mem_flatten.mp h
  rw [(List.mem_replicate.mp hl).2] at hx
  exact hx
theorem turn_mem {k : Nat} {r : List Nat} {x : Nat} (h : x ∈ turnL k r) : x ∈ r := by
  unfold turnL at h
  rcases List.mem_append.mp h with h | h
  · exact List.mem_of_mem_drop h
  · exact List.mem_of_mem_take h
theorem isN_turn (r r' : List Nat) : isNon (turnD r r') = !(firstN r == firstN r') := by
  unfold turnD
  by_cases h : firstN r = firstN r'
  · rw [if_pos h, h]; simp
  · rw [if_neg h]
    have : (firstN r == firstN r') = false := by rw [beq_eq_false_iff_ne]; exact h
    rw [this]; rfl
theorem right_T {z : Nat} {t : D} (ht : Tn z t) (hz : z < 500000000) : ∃ t', Phi T 58 71 [.o t] = .ok (.v (.bl true)) [.o t'] ∧ Tn (z + 140) t' := by
  obtain ⟨m, t1, e1, ht1, hm⟩ := of_T (T := T) (k := 57) (by decide) ht (by omega) (ds := [.int 1, .int 2, .int 3, .int 1000000]) (by decide) (by decide)
  obtain ⟨M, hM1, hM2, rfl⟩ : ∃ M : Nat, 1 ≤ M ∧ M ≤ 1000000 ∧ m = .int M := by
    simp only [List.mem_cons, List.not_mem_nil, or_false] at hm
    rcases hm with rfl | rfl | rfl | rfl
    · exact ⟨1, by decide, by decide, rfl⟩
    · exact ⟨2, by decide, by decide, rfl⟩
    · exact ⟨3, by decide, by decide, rfl⟩
    · exact ⟨1000000, by decide, by decide, rfl⟩
  obtain ⟨r, t2, e2, ht2, h0, hl, hr⟩ := srow_draw (T := T) (k := 57) (by decide) ht1 (by omega) (long := 10) (most := M) (by decide) (by decide) hM1 hM2
  have e2 : Phi T 57 67 [.o t1, .v (.int 10), .v (.int M)] = .ok (.v (rowD r)) [.o t2, .v (.int 10), .v (.int M)] := e2
  have gr : GoodR r := ⟨h0, by omega, fun x hx => (hr x hx).1, fun x hx => Nat.le_trans (hr x hx).2 hM2⟩
  obtain ⟨a, t3, e3, ht3, ha⟩ := take_T (T := T) (k := 57) (by decide) ht2 (by omega) (m := 6) (by decide) (by decide)
  have a0 : 0 < 1 + a := by omega
  have ml := many_len (1 + a) r
  have ml2 : (1 + a) * r.length ≤ 6 * 10 := Nat.mul_le_mul (by omega) hl
  have hrl := List.length_pos_iff.mpr h0
  have gm : GoodR (manyL (1 + a) r) := ⟨many_ne a0 h0, by omega, fun x hx => gr.pos x (many_mem hx), fun x hx => gr.le x (many_mem hx)⟩
  have f1 := mul_row r (1 + a) (by omega) (by omega) (by omega) h0
  have lm := len_row (manyL (1 + a) r)
  have ml3 := List.length_pos_iff.mpr gm.ne
  obtain ⟨k, t4, e4, ht4, hk⟩ := take_T (T := T) (k := 57) (by decide) ht3 (by omega) (m := ((manyL (1 + a) r).length : Int)) (by omega) (by have := gm.len; omega)
  have hk' : k ≤ (manyL (1 + a) r).length := by omega
  obtain ⟨s1, s2⟩ := slD_row (manyL (1 + a) r) k
  have s3 := add_row ((manyL (1 + a) r).drop k) ((manyL (1 + a) r).take k) (by rw [List.length_drop, List.length_take]; exact le_SZ (by have := gm.len; omega))
  have hT : (manyL (1 + a) r).drop k ++ (manyL (1 + a) r).take k = turnL k (manyL (1 + a) r) := rfl
  rw [hT] at s3
  have gt : GoodR (turnL k (manyL (1 + a) r)) := ⟨turn_ne hk' gm.ne, by rw [turn_len _ _ hk']; exact gm.len, fun x hx => gm.pos x (turn_mem hx), fun x hx => gm.le x (turn_mem hx)⟩
  have q1 : onceL (manyL (1 + a) r) = onceL r := once_many a0 h0
  have q2 : firstN (turnL k (manyL (1 + a) r)) = firstN r := by rw [first_turn' hk' gm.ne, first_many a0 h0]
  generalize manyL (1 + a) r = Mn at *
  generalize hTr : turnL k Mn = Tr at *
  have dr : ∀ r : List Nat, dep (rowD r) ≤ 10 := fun r => by rw [dep_row]; decide
  have sr : ∀ {r : List Nat}, GoodR r → sml (rowD r) = true := fun h => sml_row (le_SZ (by have := h.len; omega))
  have e5 := lonce_T (T := T) (k := 57) (by decide) h0 (by omega)
  obtain ⟨s, t5, e6, ht5, u1, u2, u3⟩ := mixed_T (T := T) (k := 57) (by decide) ht4 (by omega) (sr gm) (dr Mn) (by rw [cnt_row]; decide)
  rw [cnt_row] at ht5
  rw [tup_row] at u1
  have e7 := ronce_T (T := T) (k := 57) (by decide) u2 (by rw [u3]; exact dr Mn) u1 gm
  have e8 := rfirst_T (T := T) (k := 57) (by decide) (sr gt) (dr Tr) (tup_row Tr) gt
  have e9 := lists_ok (T := T) (f := 40) (hf 40 Rf.c40) 55 (Tr.map fun (n : Nat) => (n : Int)) (by rw [List.length_map]; exact le_SZ (by have := gt.len; omega))
  rw [← rowD_ints] at e9
  have e9 : Phi T 57 40 [.v (rowD Tr)] = .ok (.o (.lst ((Tr.map fun (n : Nat) => (n : Int)).map .int))) [.v (rowD Tr)] := e9
  have lsm : sml (.lst ((Tr.map fun (n : Nat) => (n : Int)).map D.int)) = true := by
    rw [sml, smls_ints, List.length_map, List.length_map, decide_eq_true (le_SZ (by have := gt.len; omega))]
    rfl
  have ltp : tupD (.lst ((Tr.map fun (n : Nat) => (n : Int)).map D.int)) = rowD Tr := by rw [tupD, tupDs_ints, ← rowD_ints]
  have ldp : dep (.lst ((Tr.map fun (n : Nat) => (n : Int)).map D.int)) ≤ 10 := by rw [dep, deps_ints]; decide
  have e10 := areone_T (T := T) (k := 57) (by decide) (sr gr) (dr r) (tup_row r) gr lsm ldp ltp gt
  have e11 := isrow_good (T := T) (k := 57) (by decide) gm
  have e12 := isrow_no (T := T) (k := 57) (by decide) (d := .lst ((Mn.map fun (n : Nat) => (n : Int)).map D.int)) (by
    rw [sml, smls_ints, List.length_map, List.length_map, decide_eq_true (le_SZ (by have := gm.len; omega))]
    rfl) rfl
  have e13 := lfirst_T (T := T) (k := 57) (by decide) h0 (by omega)
  have e14 := @sameo_T T _ 57 (by decide)
  have e15 := @same_T T _ 57 (by decide)
  have e16 := turnb_T (T := T) (k := 57) (by decide) (sr gm) (dr Mn) (tup_row Mn) gm (sr gt) (dr Tr) (tup_row Tr) gt
  have q3 : firstN Mn = firstN Tr := by
    rw [q2]
    unfold firstN
    rw [q1]
  have q4 : turnD Mn Tr = .int ((turnIx Mn Tr).getD 0 : Nat) := if_pos q3
  have q5 := turnIx_some gm.ne gt.ne q3
  rw [q4] at e16
  have e17 := lonce_T (T := T) (k := 57) (by decide) gt.ne (by have := gt.len; omega)
  -- places
  have ol := once_le h0
  have q6 : ∃ l, (List.range' 0 (onceL r).length).filter (fun j => (onceL r).drop j ++ (onceL r).take j == onceL Tr) = (turnIx Mn Tr).getD 0 :: l := by
    have h1 := first_ix (fun j => (onceL r).drop j ++ (onceL r).take j) (onceL Tr) (onceL r).length 0
    have h2 : turnIx Mn Tr = ((List.range' 0 (onceL r).length).map fun j => (onceL r).drop j ++ (onceL r).take j).findIdx? fun x => x == onceL Tr := by
      unfold turnIx rots
      rw [q1]
    rw [← h2, q5] at h1
    cases hl : (List.range' 0 (onceL r).length).filter (fun j => (onceL r).drop j ++ (onceL r).take j == onceL Tr) with
    | nil => rw [hl] at h1; cases h1
    | cons j l =>
      rw [hl] at h1
      simp only [List.head?_cons, Option.map_some, Option.some.injEq, Nat.sub_zero] at h1
      exact ⟨l, by rw [h1]⟩
  obtain ⟨l6, q6⟩ := q6
  have lo := len_row (onceL r)
  have f2 : ∀ (s0 s1 s2 s3 s6 s7 : Option Sl), evE (Phi T 57) r8L0 [s0, s1, s2, s3, some (.v (rowD Tr)), some (.v (rowD (onceL r))), s6, s7, none, none, none, none, none, none] = .ok (.o (.lst (.int ((turnIx Mn Tr).getD 0 : Nat) :: l6.map fun j => .int (j : Nat)))) [s0, s1, s2, s3, some (.v (rowD Tr)), some (.v (rowD (onceL r))), s6, s7, none, none, none, none, none, none] := by
    intro s0 s1 s2 s3 s6 s7
    have key := lcmf_ok (Φ := Phi T 57) (j := 13) (it := r8L0I) (c := r8L0C) (e := r8L0E) (ρ := [s0, s1, s2, s3, some (.v (rowD Tr)), some (.v (rowD (onceL r))), s6, s7, none, none, none, none, none, none]) (ρ' := [s0, s1, s2, s3, some (.v (rowD Tr)), some (.v (rowD (onceL r))), s6, s7, none, none, none, none, none, none]) (List.range' 0 (onceL r).length) (fun k => .int (k : Nat)) (fun k => .int (k : Nat)) (fun j => (onceL r).drop j ++ (onceL r).take j == onceL Tr) ?_ (by rw [List.length_range']; exact le_SZ (by omega)) (by simp) (by simp) fun j hj => ⟨?_, fun _ => ⟨.v (.int (j : Nat)), by simp [r8L0E], rfl⟩⟩
    · rw [q6, List.map_cons] at key
      exact key
    · have := rng_0n (onceL r).length (by omega)
      simp [r8L0I, this, lo]
    · obtain ⟨x1, x2⟩ := slD_row (onceL r) j
      have x3 := add_row ((onceL r).drop j) ((onceL r).take j) (by rw [List.length_drop, List.length_take]; exact le_SZ (by omega))
      have x4 := cmp_eq_row ((onceL r).drop j ++ (onceL r).take j) (onceL Tr)
      generalize (onceL r).drop j ++ (onceL r).take j = R3 at *
      generalize rowD ((onceL r).drop j) = R1 at *
      generalize rowD ((onceL r).take j) = R2 at *
      simp [r8L0C, x1, x2, x3, x4, e17]
  -- another row
  obtain ⟨r', t6, e18, ht6, h0', hl', hr'⟩ := srow_draw (T := T) (k := 57) (by decide) ht5 (by omega) (long := 10) (most := 2) (by decide) (by decide) (by decide) (by decide)
  have e18 : Phi T 57 67 [.o t5, .v (.int 10), .v (.int 2)] = .ok (.v (rowD r')) [.o t6, .v (.int 10), .v (.int 2)] := e18
  have gr' : GoodR r' := ⟨h0', by omega, fun x hx => (hr' x hx).1, fun x hx => Nat.le_trans (hr' x hx).2 (by decide)⟩
  have grr : GoodR r.reverse := ⟨by simpa using h0, by rw [List.length_reverse]; exact gr.len, fun x hx => gr.pos x (List.mem_reverse.mp hx), fun x hx => gr.le x (List.mem_reverse.mp hx)⟩
  have e19 := lfirst_T (T := T) (k := 57) (by decide) h0' (by omega)
  have e20 := areone_T (T := T) (k := 57) (by decide) (sr gr) (dr r) (tup_row r) gr (sr gr') (dr r') (tup_row r') gr'
  have e21 := turnb_T (T := T) (k := 57) (by decide) (sr gr) (dr r) (tup_row r) gr (sr gr') (dr r') (tup_row r') gr'
  have e22 := twoway_T (T := T) (k := 57) (by decide) (sr gr) (dr r) (tup_row r) gr
  have e23 := areone_T (T := T) (k := 57) (by decide) (sr gr) (dr r) (tup_row r) gr (sr grr) (dr r.reverse) (tup_row _) grr
  have e24 := lfirst_T (T := T) (k := 57) (by decide) grr.ne (by rw [List.length_reverse]; omega)
  have rv := rv_row r
  have c1 := cmp_eq_row (firstN r) (firstN r')
  have c2 := cmp_eq_row (firstN r) (firstN r.reverse)
  have c3 := isN_turn r r'
  have hlist : biD .list (rowD Mn) = some (.o (.lst ((Mn.map fun (n : Nat) => (n : Int)).map .int))) := by rw [rowD_ints]; rfl
  -- what are no rows
  let X : List D := (r.map fun (n : Nat) => (n : Int)).map D.int
  have hX : rowD r = .tup X := rowD_ints r
  have xl : X.length ≤ 10 := by simp only [X]; rw [List.length_map, List.length_map]; exact hl
  have ad : ∀ d : D, binD .add (rowD r) (.tup [d]) = some (.v (.tup (X ++ [d]))) := fun d => by
    rw [hX]
    exact bin_addt _ _ (le_SZ (by simp; omega))
  have sX : ∀ d : D, sml d = true → sml (.tup (X ++ [d])) = true := fun d hd => by
    rw [sml, Bool.and_eq_true, decide_eq_true_eq]
    refine ⟨le_SZ (by simp; omega), ?_⟩
    have key : ∀ xs : List Int, smls (xs.map D.int ++ [d]) = true := fun xs => by
      induction xs with
      | nil => simp [smls, hd]
      | cons x xs ih => rw [List.map_cons, List.cons_append, smls, ih]; rfl
    exact key _
  have nX : ∀ d : D, isNum d = false → numsB (.tup (X ++ [d])) = false := fun d hd => by
    show (X ++ [d]).all isNum = false
    rw [List.all_append]
    simp [hd]
  have b1 : ∀ x : Int, x ≤ 0 → Phi T 57 56 [.v (.tup (X ++ [.int x]))] = .ok (.v (.bl false)) [.v (.tup (X ++ [.int x]))] := fun x hx => by
    have h := isrow_T (T := T) (k := 57) (by decide) ((r.map fun (n : Nat) => (n : Int)) ++ [x]) (le_SZ (by simp; omega))
    rw [List.map_append] at h
    have h2 : (((r.map fun (n : Nat) => (n : Int)) ++ [x]).all fun x => decide (0 < x)) = false := by
      rw [List.all_append]
      have : decide (0 < x) = false := decide_eq_false (by omega)
      simp [this]
    rw [h2, Bool.and_false] at h
    exact h
  let G : List D := [.tup [], .tup (X ++ [.int 0]), .tup (X ++ [.int (-1)]), .tup (X ++ [.bl true]), .non, .str [49], .tup [rowD r], .tup (X ++ [.str [49]])]
  have hG : ∀ d ∈ G, Phi T 57 56 [.v d] = .ok (.v (.bl false)) [.v d] := by
    intro d hd
    simp only [G, List.mem_cons, List.not_mem_nil, or_false] at hd
    rcases hd with rfl | rfl | rfl | rfl | rfl | rfl | rfl | rfl
    · exact isrow_T (T := T) (k := 57) (by decide) [] (by decide)
    · exact b1 0 (by decide)
    · exact b1 (-1) (by decide)
    · exact isrow_no (T := T) (k := 57) (by decide) (sX _ rfl) (nX _ rfl)
    · exact isrow_no (T := T) (k := 57) (by decide) rfl rfl
    · exact isrow_no (T := T) (k := 57) (by decide) rfl rfl
    · exact isrow_no (T := T) (k := 57) (by decide) (by simp [sml, smls, sr gr, SZ]) rfl
    · exact isrow_no (T := T) (k := 57) (by decide) (sX _ rfl) (nX _ rfl)
  have f3 : ∀ (s0 s1 s2 s3 s4 s5 s6 s7 s8 s9 s10 s13 : Option Sl), evE (Phi T 57) r15L0 [s0, s1, s2, s3, s4, s5, s6, s7, s8, s9, s10, some (.o (.lst G)), none, s13] = .ok (.o (.lst (G.map fun _ => .bl false))) [s0, s1, s2, s3, s4, s5, s6, s7, s8, s9, s10, some (.v (.lst G)), none, s13] := by
    intro s0 s1 s2 s3 s4 s5 s6 s7 s8 s9 s10 s13
    refine lcm_ok G (fun d => d) _ (by simp [r15L0I]) (by simp [G, SZ]) (by simp) (by simp) fun d hd => ⟨.v (.bl false), ?_, rfl⟩
    have := hG d hd
    simp [r15L0E, this]
  simp only [G] at f3
  simp only [List.map_cons, List.map_nil] at f3
  have f4 : binD .mul (.lst [.bl false]) (.int 8) = some (.o (.lst [.bl false, .bl false, .bl false, .bl false, .bl false, .bl false, .bl false, .bl false])) := rfl
  have n1 := @e14 [rowD (onceL r), rowD (firstN r), .bl true, .bl true, .bl false] (by
    have z1 := sml_row (r := onceL r) (le_SZ (by omega))
    have z2 := sml_row (r := firstN r) (by
      obtain ⟨h1, _⟩ := least_spec (rots_ne' (once_ne h0))
      obtain ⟨j, _, e⟩ := rots_mem.mp h1
      unfold firstN
      rw [e, sq_len]
      exact le_SZ (by omega))
    simp [sml, smls, SZ, z1, z2]) (by simp [deps, dep_row, dep])
  have n2 := @e15 (.int ((turnIx Mn Tr).getD 0 : Nat)) rfl (by simp [dep])
  have n3 := @e14 [.bl (firstN r == firstN r'), .bl (firstN r == firstN r'), .bl (firstN r == firstN r.reverse), .bl (firstN r == firstN r.reverse)] (by simp [sml, smls, SZ]) (by simp [deps, dep])
  have n4 := @e15 (.lst [.bl false, .bl false, .bl false, .bl false, .bl false, .bl false, .bl false, .bl false]) rfl (by decide)
  refine ⟨t6, run_ends (f := 71) (c := c71) _ r_c rfl rfl ?_, ht6.up (by omega)⟩
  show Ends (evSs (Phi T 57) _ [some (.o t), none, none, none, none, none, none, none, none, none, none, none, none, none]) t6
  have q8 : firstN r == firstN Tr := by rw [q2]; simp
  rw [q8] at e10
  rw [q1] at e7
  rw [q2] at e8
  have p6 : binD .pow (.int 10) (.int 6) = some (.v (.int 1000000)) := rfl
  simp only [Int.natCast_add, Int.natCast_one] at f1
  generalize Phi T 57 = Φ at *
  generalize (Mn.map fun (n : Nat) => (n : Int)).map D.int = ML at *
  generalize (Tr.map fun (n : Nat) => (n : Int)).map D.int = TL at *
  generalize turnD r r' = TD at *
  generalize l6.map (fun j : Nat => D.int j) = L6 at *
  generalize rowD ((Mn).drop k) = R1 at *
  generalize rowD ((Mn).take k) = R2 at *
  generalize (turnIx Mn Tr).getD 0 = ix at *
  generalize (firstN r == firstN r') = B1 at *
  generalize (firstN r == firstN r.reverse) = B2 at *
  generalize rowD Mn = RM at *
  generalize rowD Tr = RT at *
  generalize rowD (onceL r) = RO at *
  generalize rowD (firstN r.reverse) = RG at *
  generalize rowD r.reverse = RV at *
  generalize rowD (firstN r') = RH at *
  generalize rowD r' = RP at *
  generalize rowD (firstN r) = RF at *
  clear hX hG
  clear_value X
  generalize rowD r = RR at *
  refine en_step (ρ' := ?_) ?_ ?_
  rotate_left
  · simp [r0, e1, e2, p6, SZ] <;> exact rfl
  refine en_step (ρ' := ?_) ?_ ?_
  rotate_left
  · simp [r1, e3, f1] <;> exact rfl
  refine en_step (ρ' := ?_) ?_ ?_
  rotate_left
  · simp [r2, lm, e4] <;> exact rfl
  refine en_step (ρ' := ?_) ?_ ?_
  rotate_left
  · simp [r3, s1, s2, s3] <;> exact rfl
  refine en_step (ρ' := ?_) ?_ ?_
  rotate_left
  · simp [r4, e5] <;> exact rfl
  refine en_step (ρ' := ?_) ?_ ?_
  rotate_left
  · simp [r5, e6, e7, e8, e9, e10, e11, e12, hlist, SZ] <;> exact rfl
  refine en_step (ρ' := ?_) ?_ ?_
  rotate_left
  · simp [r6T, r6a0, r6A, r6B, r6, e13, n1, SZ] <;> exact rfl
  refine en_step (ρ' := ?_) ?_ ?_
  rotate_left
  · simp [r7, e16] <;> exact rfl
  refine en_step (ρ' := ?_) ?_ ?_
  rotate_left
  · simp [r8T, r8a0, r8A, r8B, r8, f2, n2] <;> exact rfl
  refine en_step (ρ' := ?_) ?_ ?_
  rotate_left
  · simp [r9, e18] <;> exact rfl
  refine en_step (ρ' := ?_) ?_ ?_
  rotate_left
  · simp [r10, e13, e19, c1] <;> exact rfl
  refine en_step (ρ' := ?_) ?_ ?_
  rotate_left
  · simp [r11, e20, e21, e22, e23, rv, c3, SZ] <;> exact rfl
  refine en_step (ρ' := ?_) ?_ ?_
  rotate_left
  · simp [r12, e13, e24, rv, c2] <;> exact rfl
  refine en_step (ρ' := ?_) ?_ ?_
  rotate_left
  · simp [r13T, r13a0, r13A, r13B, r13, n3, SZ] <;> exact rfl
  refine en_step (ρ' := ?_) ?_ ?_
  rotate_left
  · simp [r14, ad, SZ] <;> exact rfl
  refine en_end (ρ' := ?_) ?_ ?_
  rotate_left
  · simp [r15, f3, f4, n4, SZ]
    exact rfl
  · rfl
def q0 : S := (.asg (.nm 1) (.call 66 (.val (.call 11 (.ref 0 (.val (.cst (.int 1)) .nil)) []) (.val (.cst (.int 0)) .nil)) []))
def q1_0L0I : Ir := (.sq (.tup (.cons (.cst .non) (.cons (.tup .nil) (.cons (.tup (.cons (.cst (.int 0)) .nil)) (.cons (.bin .mul (.val (.tup (.cons (.cst (.int 1)) .nil))) (.val (.cst (.int 61)))) (.cons (.tup (.cons (.bin .add (.val (.bin .pow (.val (.cst (.int 10))) (.val (.cst (.int 6))))) (.val (.cst (.int 1)))) .nil)) (.cons (.cst (.str [49])) (.cons (.tup (.cons (.cst (.int 1)) (.cons (.cst (.bl true)) .nil))) .nil)))))))))
def q1_0L0E : E := (.call 42 (.ref 2 (.val (.tup (.cons (.var 4) .nil)) .nil)) [])
def q1_0L0 : E := (.lc [4] (.nm 4) q1_0L0I none q1_0L0E)
def q1_0T : Rf.T := (.cmp .ne (.val q1_0L0) (.val (.bin .mul (.val (.lst (.cons (.cst (.str [117, 110, 102, 105, 116])) .nil))) (.val (.cst (.int 7))))))
def q1_0a0 : S := (.ret (.cst (.bl false)))
def q1_0A : Ss := (.cons q1_0a0 .nil)
def q1_0B : Ss := .nil
def q1_0 : S := (.ite q1_0T q1_0A q1_0B)
def q1B : Ss := (.cons q1_0 .nil)
def q1I : Ir := (.sq (.tup (.cons (.cst (.fn 61)) (.cons (.cst (.fn 62)) (.cons (.cst (.fn 65)) .nil)))))
def q1 : S := (.fr (.nm 2) q1I q1B)
def q2L0I : Ir := (.sq (.tup (.cons (.cst (.fn 63)) (.cons (.cst (.fn 64)) .nil))))
def q2L0E : E := (.call 42 (.ref 2 (.val (.tup (.cons (.tup (.cons (.cst (.int 1)) .nil)) (.cons (.tup .nil) .nil))) .nil)) [])
def q2L0 : E := (.lc [2] (.nm 2) q2L0I none q2L0E)
def q2T : Rf.T := (.cmp .ne (.val q2L0) (.val (.bin .mul (.val (.lst (.cons (.cst (.str [117, 110, 102, 105, 116])) .nil))) (.val (.cst (.int 2))))))
def q2a0 : S := (.ret (.cst (.bl false)))
def q2A : Ss := (.cons q2a0 .nil)
def q2B : Ss := .nil
def q2 : S := (.ite q2T q2A q2B)
def q3 : S := (.asg (.nm 3) (.lst (.cons (.call 56 (.val (.tup (.cons (.bin .pow (.val (.cst (.int 10))) (.val (.cst (.int 9)))) .nil)) .nil) []) (.cons (.call 61 (.val (.bin .mul (.val (.tup (.cons (.cst (.int 5)) .nil))) (.val (.cst (.int 60)))) .nil) []) (.cons (.call 62 (.val (.tup (.cons (.cst (.int 3)) (.cons (.cst (.int 1)) (.cons (.cst (.int 2)) .nil)))) .nil) []) (.cons (.call 64 (.val (.tup (.cons (.cst (.int 1)) .nil)) (.val (.tup (.cons (.cst (.int 1)) (.cons (.cst (.int 1)) .nil))) .nil)) []) (.cons (.call 65 (.val (.tup (.cons (.cst (.int 1)) (.cons (.cst (.int 2)) (.cons (.cst (.int 2)) (.cons (.cst (.int 1)) (.cons (.cst (.int 3)) .nil)))))) .nil) []) .nil)))))))
def q4L0I : Ir := (.rng1 (.cst (.int 5)))
def q4L0E : E := (.call 71 (.ref 1 .nil) [])
def q4L0 : E := (.lc [5] (.nm 5) q4L0I none q4L0E)
def q4 : S := (.ret (.and2 (.call 14 (.ref 3 (.val (.lst (.cons (.cst (.bl true)) (.cons (.tup (.cons (.cst (.int 5)) .nil)) (.cons (.tup (.cons (.cst (.int 1)) (.cons (.cst (.int 2)) (.cons (.cst (.int 3)) .nil)))) (.cons (.cst (.int 0)) (.cons (.cst (.bl true)) .nil)))))) .nil)) []) (.bi .all (.val q4L0))))
theorem q_c : c72 = ⟨1, 6, [], (.cons q0 (.cons q1 (.cons q2 (.cons q3 (.cons q4 .nil)))))⟩ := rfl
def W (x t : D) : Env := O.env (evSs (Phi T 58) (.cons q1 (.cons q2 (.cons q3 .nil))) [some (.v x), some (.o t), none, none, none, none])
theorem W1 (x t : D) : evSs (Phi T 58) (.cons q1 (.cons q2 (.cons q3 .nil))) [some (.v x), some (.o t), none, none, none, none] = .nx (W x t) := by kernel_rfl
def qA : E := (.call 14 (.ref 3 (.val (.lst (.cons (.cst (.bl true)) (.cons (.tup (.cons (.cst (.int 5)) .nil)) (.cons (.tup (.cons (.cst (.int 1)) (.cons (.cst (.int 2)) (.cons (.cst (.int 3)) .nil)))) (.cons (.cst (.int 0)) (.cons (.cst (.bl true)) .nil)))))) .nil)) [])
def W2 (x t : D) : Env := R.env (evE (Phi T 58) qA (W x t))
theorem W2a (x t : D) : evE (Phi T 58) qA (W x t) = .ok (.v (.bl true)) (W2 x t) := by kernel_rfl
theorem W2b (x t : D) : gt (W2 x t) 1 = some (.o t) := by kernel_rfl
theorem W2c (x t : D) : (W2 x t)[5]? = some none := by kernel_rfl
theorem W2d (x t : D) : (W2 x t).length = 6 := by kernel_rfl
theorem main_ (ns : List Int) (h : ns.length ≤ 63) : ∃ ss, Phi T 59 72 [.v (.scr (ns.map .int))] = .ok (.v (.bl true)) ss := by
  refine law_main (fb := 66) (zb := 24823003) (by kernel_rfl) (c := c72) (by kernel_rfl) (nl := 4) q_c rfl (fun x t ht => ?_) ns h
  obtain ⟨t', e, ht'⟩ := all_turns (Φ := Phi T 58) (j := 5) (R := 71) (n := 5) (ρ := W2 x t) 140 (by decide) (by decide) (by rw [W2d]; decide) (W2c x t) (W2b x t) ht (fun z' t hz ht => right_T ht (by omega))
  refine ⟨(W2 x t).set 1 (some (.o t')), ?_⟩
  show evSs (Phi T 58) (.cons q1 (.cons q2 (.cons q3 (.cons q4 .nil)))) [some (.v x), some (.o t), none, none, none, none] = _
  rw [ss_split (Phi T 58) 3]
  have e7 : evSs (Phi T 58) (Ss.takeN 3 (.cons q1 (.cons q2 (.cons q3 (.cons q4 .nil))))) [some (.v x), some (.o t), none, none, none, none] = _ := W1 x t
  rw [e7, O.then_nx]
  show evSs (Phi T 58) (.cons (.ret (.and2 qA (.bi .all (.val (.lc [5] (.nm 5) (.rng1 (.cst (.int (5 : Nat)))) none (.call 71 (.ref 1 .nil) [])))))) .nil) (W x t) = _
  rw [ss_c, evS, qevE_and2, W2a, R.bind_ok, Sl.d_v, trC_t, e]
  rfl
end Rf.k03.Q

set_option maxHeartbeats 0 in
theorem PySem.Challenge.cw_belowthree_k03_whole_rows_that_come_roun_holds : PySem.Challenge.rw_belowthree_k03_whole_rows_that_come_roun.Holds := by
  refine hd ?_
  k_fill
  refine L2.walk_of (l := PySem.Challenge.rw_belowthree_k03_whole_rows_that_come_roun) (n := 63) (k := 60) (x := "script") (CX := fun w => L2.CX PySem.Challenge.rw_belowthree_k03_whole_rows_that_come_roun.prog w)
    (sp := fun w => Rf.spF (Rf.k03.K0 w.params) (Rf.faOf (Rf.k03.K0 w.params) Rf.k03.ents) (Rf.caOf (Rf.k03.K0 w.params) Rf.k03.excs) (Rf.Phi Rf.k03.T 59) Rf.k03.e72.f 1) rfl (by decide) rfl ⟨rfl, by decide, by decide⟩ (fun w h Y => PySem.W.kIn_of Y) ?F ?sp (fun _ _ _ _ _ h => Rf.law_cx h)
  case F =>
    intro w mg fa h KX G hmg
    exact Rf.law_F (e := Rf.k03.e72) 59 (Rf.k03.po w.params) KX G hmg Rf.k03.law_in rfl rfl rfl Rf.k03.b72
  case sp => exact fun w H a ns h1 _ h2 => Rf.law_sp Rf.k03.Q.main_ H a ns h1 h2

