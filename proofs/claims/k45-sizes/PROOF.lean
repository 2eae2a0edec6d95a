import PyProof.Rows.All
import Wide.All
import OpenK.AllK
import Wide.FinOn
import HandS.ForMost
import HandS.TupSets
import HandS.SortOrd
import HandS.Deep
import KE.KeyNested
import KE.DataEq
import KE.DataCmp
import HandS.TupAny
import HandS.TupMul
import HandS.TupLe
import HandS.Flow
import HandS.Style
import PyProof.Rows.IntBool
import KE.KDictKeyed
import KE.KDictWalk
import KE.KDictDisplayH
import KE.SortData
import KE.KDictSum
import KE.KDictItemsList
import KE.DataMinMax
import KE.DataFind
import HandS.Zip
import HandS.Comp
import HandS.DictTup
import HandS.SetFor
import HandS.Codes
import HandS.Defaults
import HandS.Head0
import HandS.Head1
import HandS.Head2
import HandS.HeadEnd
import HandS.HeadHook1
import HandS.HeadHook2
import PySem.Challenge.RW_toldbywords_k45_whole_books_cut_to_a_siz
section
/-! EvA: values, code terms, and the evaluator that runs them (plain Lean, no program in sight). -/
set_option autoImplicit false
namespace Ev

/-- a value, told by what it holds; `cel n` is the n-th shared object of the store -/
inductive PV where
  | non | bl (b : Bool) | int (i : Int) | str (s : List Nat)
  | tup (l : List PV) | lst (l : List PV) | dct (l : List (PV × PV)) | cel (n : Nat)
  /-- the law's script -/
  | scr (l : List Int)
  deriving Inhabited

abbrev Store := List PV
/-- a result, an exception (its class by number, what it keeps), or nothing that we speak of -/
inductive Res (α : Type) where
  | ok (a : α) | exc (c : Nat) (v : List PV) | bad
  deriving Inhabited
namespace Res
variable {α β : Type}
def bind : Res α → (α → Res β) → Res β
  | .ok a, f => f a
  | .exc c v, _ => .exc c v
  | .bad, _ => .bad
instance : Monad Res where
  pure := .ok
  bind := bind
@[simp] theorem pure_eq (a : α) : (pure a : Res α) = .ok a := id rfl
@[simp] theorem ok_bind (a : α) (f : α → Res β) : (Res.ok a >>= f) = f a := id rfl
@[simp] theorem bad_bind (f : α → Res β) : (Res.bad >>= f) = .bad := id rfl
@[simp] theorem exc_bind (c : Nat) (v : List PV) (f : α → Res β) : (Res.exc c v >>= f) = .exc c v := id rfl
theorem bind_eq_ok {x : Res α} {f : α → Res β} {b : β} (h : (x >>= f) = .ok b) : ∃ a, x = .ok a ∧ f a = .ok b := by
  cases x with
  | ok a => exact ⟨a, rfl, h⟩
  | exc c v => cases h
  | bad => cases h
/-- a condition that must hold -/
def need (b : Bool) : Res Unit := if b then .ok () else .bad
@[simp] theorem need_true : need true = .ok () := id rfl
@[simp] theorem need_false : need false = .bad := id rfl
def ofOpt : Option α → Res α
  | some a => .ok a
  | none => .bad
@[simp] theorem ofOpt_some (a : α) : ofOpt (some a) = .ok a := id rfl
@[simp] theorem ofOpt_none : (ofOpt none : Res α) = .bad := id rfl
end Res
open Res

namespace PV
mutual
def depth : PV → Nat
  | tup l => depthL l + 1
  | lst l => depthL l + 1
  | _ => 0
def depthL : List PV → Nat
  | [] => 0
  | x :: xs => max (depth x) (depthL xs)
end
mutual
/-- no list, dict or shared object within -/
def imm : PV → Bool
  | tup l => immL l
  | lst _ => false
  | dct _ => false
  | cel _ => false
  | _ => true
def immL : List PV → Bool
  | [] => true
  | x :: xs => imm x && immL xs
end
mutual
/-- no dict, no shared object within -/
def plain : PV → Bool
  | tup l => plainL l
  | lst l => plainL l
  | dct _ => false
  | cel _ => false
  | scr _ => false
  | _ => true
def plainL : List PV → Bool
  | [] => true
  | x :: xs => plain x && plainL xs
end
/-- its parts hold no list, dict or shared object -/
def partsImm : PV → Bool
  | tup l => immL l
  | lst l => immL l
  | dct l => l.all fun kv => kv.1.imm && kv.2.imm
  | cel _ => false
  | _ => true
def isMut : PV → Bool
  | lst _ => true
  | dct _ => true
  | _ => false
mutual
/-- all shared objects within are below n -/
def cb (n : Nat) : PV → Bool
  | tup l => cbL n l
  | lst l => cbL n l
  | dct l => cbD n l
  | cel m => decide (m < n)
  | _ => true
def cbL (n : Nat) : List PV → Bool
  | [] => true
  | x :: xs => cb n x && cbL n xs
def cbD (n : Nat) : List (PV × PV) → Bool
  | [] => true
  | (k, v) :: xs => cb n k && cb n v && cbD n xs
end
def b2i (b : Bool) : Int := if b then 1 else 0
mutual
/-- == of plain values -/
def eqv : PV → PV → Bool
  | non, non => true
  | bl a, bl b => a == b
  | bl a, int j => b2i a == j
  | int i, bl b => i == b2i b
  | int i, int j => i == j
  | str x, str y => x == y
  | lst xs, lst ys => eqvL xs ys
  | tup xs, tup ys => eqvL xs ys
  | _, _ => false
def eqvL : List PV → List PV → Bool
  | [], [] => true
  | x :: xs, y :: ys => eqv x y && eqvL xs ys
  | _, _ => false
end
mutual
/-- of one form, place by place -/
def alike : PV → PV → Bool
  | non, non => true
  | bl _, bl _ => true
  | int _, int _ => true
  | str _, str _ => true
  | lst xs, lst ys => alikeL xs ys
  | tup xs, tup ys => alikeL xs ys
  | _, _ => false
def alikeL : List PV → List PV → Bool
  | x :: xs, y :: ys => alike x y && alikeL xs ys
  | _, _ => true
end
def ltN : List Nat → List Nat → Bool
  | [], [] => false
  | [], _ :: _ => true
  | _ :: _, [] => false
  | x :: xs, y :: ys => if x = y then ltN xs ys else decide (x < y)
mutual
/-- < of alike values -/
def ltb : PV → PV → Bool
  | bl a, bl b => !a && b
  | int i, int j => decide (i < j)
  | str x, str y => ltN x y
  | lst xs, lst ys => ltbL xs ys
  | tup xs, tup ys => ltbL xs ys
  | _, _ => false
def ltbL : List PV → List PV → Bool
  | [], [] => false
  | [], _ :: _ => true
  | _ :: _, [] => false
  | x :: xs, y :: ys => if eqv x y then ltbL xs ys else ltb x y
end
def isNon : PV → Bool
  | non => true
  | _ => false
mutual
/-- what may be a dict's key, or a set's member -/
def keyable : PV → Bool
  | tup l => keyableL l
  | lst _ => false
  | dct _ => false
  | cel _ => false
  | scr _ => false
  | _ => true
def keyableL : List PV → Bool
  | [] => true
  | x :: xs => keyable x && keyableL xs
end
/-- a key of a dict that is copied, or made of pairs -/
def isMix : PV → Bool
  | int _ => true
  | str _ => true
  | _ => false
def isKey (v : PV) : Bool := v.keyable && decide (v.depth ≤ 8)
def okD (v : PV) : Bool := v.plain && decide (v.depth ≤ 60)
end PV
open PV

def line : Nat := 16777216
def fitsL {α : Type} (l : List α) : Bool := decide (l.length ≤ line)

/-! ### dicts -/
def dGet (l : List (PV × PV)) (k : PV) : Option PV := (l.find? fun kv => kv.1.eqv k).map (·.2)
def dHas (l : List (PV × PV)) (k : PV) : Bool := l.any fun kv => kv.1.eqv k
def dPut (l : List (PV × PV)) (k v : PV) : List (PV × PV) :=
  if dHas l k then l.map fun kv => if kv.1.eqv k then (kv.1, v) else kv else l ++ [(k, v)]
def dDel (l : List (PV × PV)) (k : PV) : List (PV × PV) := l.filter fun kv => !kv.1.eqv k
def dUpd (l m : List (PV × PV)) : List (PV × PV) := m.foldl (fun a kv => dPut a kv.1 kv.2) l

/-! ### order -/
def insB (lt : PV → PV → Bool) (x : PV) : List PV → List PV
  | [] => [x]
  | y :: ys => if lt x y then x :: y :: ys else y :: insB lt x ys
/-- stable -/
def isort (lt : PV → PV → Bool) (l : List PV) : List PV := l.foldl (fun acc x => insB lt x acc) []
def alikeAll (l : List PV) : Bool := l.all fun x => !x.isNon && l.all fun y => x.alike y
def isNoTup : PV → Bool
  | .tup [] => true
  | _ => false
def minable (l : List PV) : Bool := alikeAll l && l.all okD
def sortable (l : List PV) : Bool := minable l && l.all fun x => !isNoTup x
def dedup : List PV → List PV
  | [] => []
  | x :: xs => x :: (dedup xs).filter fun y => !x.eqv y
def minOf (x : PV) (l : List PV) : PV := l.foldl (fun a y => if y.ltb a then y else a) x
def maxOf (x : PV) (l : List PV) : PV := l.foldl (fun a y => if a.ltb y then y else a) x

/-! ### operators, by values -/
inductive Bop where
  | add | sub | mul | fdiv | mod | pow | band | shl | shr
  deriving DecidableEq
inductive Cop where
  | eq | ne | lt | le | gt | ge | mem | nmem | is | isn
  deriving DecidableEq
inductive Bi where
  | len | tuple | list | dict | sorted | sum | min | max | all | any | int | str | abs
  deriving DecidableEq
inductive Ty where
  | int | bool | str | tuple | list | dict
  deriving DecidableEq
inductive Mth where
  | get | index | count | join | split
  deriving DecidableEq
inductive Mut where
  | append | extend | update | pop | remove
  deriving DecidableEq

def small62 (i : Int) : Bool := decide (-(2 ^ 62) < i ∧ i < 2 ^ 62)
def big64 (i : Int) : Bool := decide (-(2 ^ 64) < i ∧ i < 2 ^ 64)
def repL {α : Type} (l : List α) (n : Int) : List α := (List.replicate n.toNat l).flatten
def binop : Bop → PV → PV → Res PV
  | .add, .int i, .int j => .ok (.int (i + j))
  | .add, .bl i, .int j => .ok (.int (b2i i + j))
  | .add, .int i, .bl j => .ok (.int (i + b2i j))
  | .sub, .bl i, .int j => .ok (.int (b2i i - j))
  | .add, .str x, .str y => do need (fitsL (x ++ y)); .ok (.str (x ++ y))
  | .add, .tup x, .tup y => do need (fitsL (x ++ y)); .ok (.tup (x ++ y))
  | .add, .lst x, .lst y => do need (fitsL (x ++ y)); .ok (.lst (x ++ y))
  | .sub, .int i, .int j => .ok (.int (i - j))
  | .mul, .int i, .int j => do need (big64 i || big64 j); .ok (.int (i * j))
  | .mul, .lst x, .int n => do need (fitsL (repL x n) && small62 n); .ok (.lst (repL x n))
  | .mul, .tup x, .int n => do need (fitsL (repL x n) && small62 n); .ok (.tup (repL x n))
  | .fdiv, .int i, .int j => do need (decide (0 < j ∧ j < 1073741824)); .ok (.int (i / j))
  | .mod, .int i, .int j => do need (decide (0 < j)); .ok (.int (i % j))
  | .pow, .int i, .int j => do need (decide (0 ≤ j ∧ j ≤ 1000 ∧ i.natAbs < 2 ^ 64)); .ok (.int (i ^ j.toNat))
  | .shl, .int i, .int j => do need (decide (0 ≤ j ∧ j ≤ 1000 ∧ i.natAbs < 2 ^ 64)); .ok (.int (i * 2 ^ j.toNat))
  | .shr, .int i, .int j => do need (decide (0 ≤ j)); .ok (.int (i / 2 ^ j.toNat))
  | _, _, _ => .bad
def memE : PV → PV → Res Bool
  | x, .lst l => do need (plainL l && decide (depthL l ≤ 60) && x.okD); .ok (l.any fun z => z.eqv x)
  | x, .tup l => do need (plainL l && decide (depthL l ≤ 60) && x.okD); .ok (l.any fun z => z.eqv x)
  | x, .dct l => do need x.isKey; .ok (dHas l x)
  | .str [c], .str y => .ok (decide (c ∈ y))
  | _, _ => .bad
def dictEq (a b : List (PV × PV)) : Bool :=
  a.length == b.length && a.all fun kv => match dGet b kv.1 with | some v => kv.2.eqv v | none => false
def eqE : PV → PV → Res Bool
  | .dct _, .dct _ => .bad
  | a, b => do need (a.okD && b.okD); .ok (a.eqv b)
def ltE (a b : PV) : Res Bool := do need (a.okD && b.okD && a.alike b && !a.isNon); .ok (a.ltb b)
def isE : PV → PV → Res Bool
  | v, .non => .ok v.isNon
  | .bl a, .bl b => .ok (a == b)
  | .int _, .bl _ => .ok false
  | .non, .bl _ => .ok false
  | .str _, .bl _ => .ok false
  | .tup _, .bl _ => .ok false
  | .lst _, .bl _ => .ok false
  | .dct _, .bl _ => .ok false
  | _, _ => .bad
def cmpop : Cop → PV → PV → Res Bool
  | .eq, a, b => eqE a b
  | .ne, a, b => do let r ← eqE a b; .ok !r
  | .lt, a, b => ltE a b
  | .gt, a, b => ltE b a
  | .le, a, b => do let r ← ltE b a; .ok !r
  | .ge, a, b => do let r ← ltE a b; .ok !r
  | .mem, a, b => memE a b
  | .nmem, a, b => do let r ← memE a b; .ok !r
  | .is, a, b => isE a b
  | .isn, a, b => do let r ← isE a b; .ok !r
def truthy : PV → Res Bool
  | .non => .ok false
  | .bl b => .ok b
  | .str s => .ok !s.isEmpty
  | .tup l => .ok !l.isEmpty
  | .lst l => .ok !l.isEmpty
  | _ => .bad
/-- a place from the front, or from the end -/
def place (n : Nat) (i : Int) : Option Nat :=
  if 0 ≤ i then (if i < n then some i.toNat else none) else (if -(n : Int) ≤ i then some (i + n).toNat else none)
def atL {α : Type} (l : List α) (i : Int) : Option α := (place l.length i).bind fun j => l[j]?
/-- a bound of a slice -/
def bnd (n : Nat) (dflt : Nat) : Option Int → Nat
  | none => dflt
  | some i => if 0 ≤ i then min i.toNat n else (i + n).toNat
def cut {α : Type} (l : List α) (lo hi : Option Int) : List α :=
  (l.take (bnd l.length l.length hi)).drop (bnd l.length 0 lo)
def subscr : PV → PV → Res PV
  | .lst l, .int i => do need (small62 i); ofOpt (atL l i)
  | .tup l, .int i => do need (small62 i); ofOpt (atL l i)
  | .str s, .int i => do need (small62 i); let c ← ofOpt (atL s i); .ok (.str [c])
  | .dct l, k => do need k.isKey; ofOpt (dGet l k)
  | .scr l, .int i => do need (small62 i); let n ← ofOpt (atL l i); .ok (.int n)
  | _, _ => .bad
def asOpt : Option PV → Res (Option Int)
  | none => .ok none
  | some (.int i) => do need (small62 i); .ok (some i)
  | _ => .bad
def slice (v : PV) (lo hi : Option PV) : Res PV := do
  let l ← asOpt lo
  let h ← asOpt hi
  match v with
  | .lst x => .ok (.lst (cut x l h))
  | .tup x => .ok (.tup (cut x l h))
  | .str x => .ok (.str (cut x l h))
  | _ => .bad
def revE : PV → Res PV
  | .lst x => .ok (.lst x.reverse)
  | .tup x => .ok (.tup x.reverse)
  | .str x => .ok (.str x.reverse)
  | _ => .bad
/-- what a walk over a value gives -/
def walk : PV → Res (List PV)
  | .lst l => .ok l
  | .tup l => .ok l
  | .str s => .ok (s.map fun c => .str [c])
  | .dct l => .ok (l.map (·.1))
  | _ => .bad
def rangeL (lo hi step : Int) : List PV :=
  if 0 < step then (List.range ((hi - lo + step - 1) / step).toNat).map fun (k : Nat) => .int (lo + step * (k : Int))
  else (List.range ((lo - hi + -step - 1) / -step).toNat).map fun (k : Nat) => .int (lo + step * (k : Int))
def rangeE : List PV → Res (List PV)
  | [.int n] => do need (small62 n && decide (n ≤ 16777216)); .ok (rangeL 0 n 1)
  | [.int a, .int b] => do need (small62 a && small62 b && decide (b - a ≤ 16777216)); .ok (rangeL a b 1)
  | [.int a, .int b, .int c] => do need (small62 a && small62 b && decide (b - a ≤ 16777216) && decide (a - b ≤ 16777216) && (decide (c = -1) || decide (0 < c ∧ c ≤ 1000))); .ok (rangeL a b c)
  | _ => .bad
def pairOf : PV → Res (PV × PV)
  | .tup [k, v] => do need k.isKey; .ok (k, v)
  | _ => .bad
def pairsOf : List PV → Res (List (PV × PV))
  | [] => .ok []
  | x :: xs => do let p ← pairOf x; let r ← pairsOf xs; .ok (p :: r)
def sumOf : List PV → Res Int
  | [] => .ok 0
  | .int i :: xs => do let r ← sumOf xs; .ok (i + r)
  | _ => .bad
def boolsOf : List PV → Res (List Bool)
  | [] => .ok []
  | .bl b :: xs => do let r ← boolsOf xs; .ok (b :: r)
  | _ => .bad
def strsOf : List PV → Res (List (List Nat))
  | [] => .ok []
  | .str b :: xs => do let r ← strsOf xs; .ok (b :: r)
  | _ => .bad
/-- numbers in decimal signs -/
def digitsN : Nat → Nat → List Nat → List Nat
  | 0, _, acc => acc
  | f + 1, n, acc => if n < 10 then (48 + n) :: acc else digitsN f (n / 10) ((48 + n % 10) :: acc)
def strInt (i : Int) : List Nat := if i < 0 then 45 :: digitsN 1000 i.natAbs [] else digitsN 1000 i.natAbs []
def parseN : List Nat → Nat → Option Nat
  | [], acc => some acc
  | c :: cs, acc => if 48 ≤ c ∧ c ≤ 57 then parseN cs (acc * 10 + (c - 48)) else none
def joinN (sep : List Nat) : List (List Nat) → List Nat
  | [] => []
  | [x] => x
  | x :: xs => x ++ sep ++ joinN sep xs
def PV.isAtom : PV → Bool
  | .int _ => true
  | .str _ => true
  | .bl _ => true
  | .non => true
  | _ => false
/-- a tuple of something, short within -/
def isTupK (v : PV) : Bool := match v with
  | .tup (_ :: _) => v.isKey
  | _ => false
/-- what a set of these may be made of -/
def settable (l : List PV) : Bool := l.all isMix && decide (l.length < 4000) || l.all isTupK && decide ((dedup l).length < 63)
def seqOf : PV → Res (List PV)
  | .lst l => .ok l
  | .tup l => .ok l
  | _ => .bad
def sortedE (l : List PV) : Res PV := do need (fitsL l && sortable l); .ok (.lst (isort ltb l))
def builtin : Bi → List PV → Res PV
  | .len, [.lst l] => .ok (.int l.length)
  | .len, [.tup l] => .ok (.int l.length)
  | .len, [.str l] => .ok (.int l.length)
  | .len, [.dct l] => .ok (.int l.length)
  | .len, [.scr l] => .ok (.int l.length)
  | .tuple, [.lst l] => do need (fitsL l); .ok (.tup l)
  | .tuple, [.tup l] => .ok (.tup l)
  | .list, [.lst l] => do need (fitsL l); .ok (.lst l)
  | .list, [.tup l] => do need (fitsL l); .ok (.lst l)
  | .sorted, [.lst l] => sortedE l
  | .sorted, [.tup l] => sortedE l
  | .sorted, [.dct l] => sortedE (l.map (·.1))
  | .dict, [.dct l] => do need (l.all fun kv => kv.1.isMix); .ok (.dct l)
  | .dict, [.lst l] => do let ps ← pairsOf l; need (fitsL l); .ok (.dct (dUpd [] ps))
  | .sum, [.lst l] => do let r ← sumOf l; .ok (.int r)
  | .all, [.lst l] => do let r ← boolsOf l; .ok (.bl (r.all id))
  | .any, [.lst l] => do let r ← boolsOf l; .ok (.bl (r.any id))
  | .min, [.lst (x :: l)] => do need (minable (x :: l)); .ok (minOf x l)
  | .max, [.lst (x :: l)] => do need (minable (x :: l)); .ok (maxOf x l)
  | .min, [.tup (x :: l)] => do need (minable (x :: l)); .ok (minOf x l)
  | .max, [.tup (x :: l)] => do need (minable (x :: l)); .ok (maxOf x l)
  | .min, a :: b :: l => do need (minable (a :: b :: l)); .ok (minOf a (b :: l))
  | .max, a :: b :: l => do need (minable (a :: b :: l)); .ok (maxOf a (b :: l))
  | .int, [.int i] => .ok (.int i)
  | .int, [.bl b] => .ok (.int (b2i b))
  | .abs, [.int i] => .ok (.int (if i < 0 then -i else i))
  | _, _ => .bad
def ssetE (v : PV) : Res PV := do
  let l ← seqOf v
  need (settable l)
  sortedE (dedup l)
def lsetE (v : PV) : Res PV := do
  let l ← seqOf v
  need (settable l)
  .ok (.int (dedup l).length)
def isTy : Ty → PV → Bool
  | .int, .int _ => true
  | .int, .bl _ => true
  | .bool, .bl _ => true
  | .str, .str _ => true
  | .tuple, .tup _ => true
  | .list, .lst _ => true
  | .dict, .dct _ => true
  | _, _ => false
def isCel : PV → Bool
  | .cel _ => true
  | _ => false
def isScr : PV → Bool
  | .scr _ => true
  | _ => false
def splitAux (sep : List Nat) : Nat → List Nat → List Nat → List (List Nat)
  | 0, _, acc => [acc.reverse]
  | _ + 1, [], acc => [acc.reverse]
  | f + 1, c :: cs, acc => if sep.isPrefixOf (c :: cs) then acc.reverse :: splitAux sep f ((c :: cs).drop sep.length) [] else splitAux sep f cs (c :: acc)
def method : Mth → PV → List PV → Res PV
  | .get, .dct l, [k] => do need k.isKey; .ok ((dGet l k).getD .non)
  | .get, .dct l, [k, d] => do need k.isKey; .ok ((dGet l k).getD d)
  | .count, .lst l, [x] => do need (plainL l && decide (depthL l ≤ 60) && x.okD); .ok (.int (l.countP fun z => z.eqv x))
  | _, _, _ => .bad

/-! ### code -/
inductive Tgt where
  | nm (i : Nat) | tp (is : List Nat)
mutual
inductive CE where
  | non | bl (b : Bool) | int (i : Int) | str (s : List Nat) | gl (g : Nat)
  | slot (i : Nat)
  | tup (es : List CE) | lst (es : List CE) | dic (kvs : List CE)
  | bin (op : Bop) (a b : CE) | neg (a : CE) | not (a : CE) | and (es : List CE) | or (es : List CE) | ite (c a b : CE)
  | cmp (op : Cop) (a b : CE) | chain (o1 o2 : Cop) (a b c : CE)
  | idx (a i : CE) | slc (a : CE) (lo hi : Option CE) | rev (a : CE)
  | call (f : Nat) (es : List CE)
  | bi (b : Bi) (es : List CE) | bit (b : Bi) (it : IT) | isi (t : Ty) (a : CE) | sset (a : CE) | lset (a : CE)
  | meth (m : Mth) (o : CE) (es : List CE)
  | comp (gs : List Gen) (elt : CE)
inductive IT where
  | val (e : CE) | rng (es : List CE) | items (e : CE) | zip (a b : CE)
inductive Gen where
  | mk (t : Tgt) (it : IT) (ifs : List CE)
end
def Tgt.slots : Tgt → List Nat
  | .nm i => [i]
  | .tp is => is
def Gen.slots : Gen → List Nat
  | .mk t _ _ => t.slots
def ownOf (gs : List Gen) : List Nat := gs.flatMap Gen.slots

mutual
/-- the slots whose own objects may stand in the value -/
def CE.tv : CE → List Nat
  | .slot i => [i]
  | .tup es => tvL es
  | .lst es => tvL es
  | .dic kvs => tvL kvs
  | .bin _ a b => a.pv ++ b.pv
  | .and es => tvL es
  | .or es => tvL es
  | .ite _ a b => a.tv ++ b.tv
  | .idx a _ => a.pv
  | .slc a _ _ => a.pv
  | .rev a => a.pv
  | .call _ es => tvL es
  | .bi _ es => tvB es
  | .bit _ it => it.pv
  | .meth _ o es => o.pv ++ tvL es
  | .comp gs elt => pvG gs ++ elt.tv
  | _ => []
/-- .. in the value's parts -/
def CE.pv : CE → List Nat
  | .tup es => tvL es
  | .lst es => tvL es
  | .dic kvs => tvL kvs
  | .bin _ a b => a.pv ++ b.pv
  | .and es => pvL es
  | .or es => pvL es
  | .ite _ a b => a.pv ++ b.pv
  | .idx a _ => a.pv
  | .slc a _ _ => a.pv
  | .rev a => a.pv
  | .call _ es => tvL es
  | .bi _ es => tvB es
  | .bit _ it => it.pv
  | .meth _ o es => o.pv ++ tvL es
  | .comp gs elt => pvG gs ++ elt.tv
  | _ => []
/-- of one argument its parts, of more themselves -/
def tvB : List CE → List Nat
  | [] => []
  | [e] => e.pv
  | e :: es => e.tv ++ tvL es
def tvL : List CE → List Nat
  | [] => []
  | e :: es => e.tv ++ tvL es
def pvL : List CE → List Nat
  | [] => []
  | e :: es => e.pv ++ pvL es
def IT.pv : IT → List Nat
  | .val e => e.pv
  | .rng _ => []
  | .items e => e.pv
  | .zip a b => a.pv ++ b.pv
def pvG : List Gen → List Nat
  | [] => []
  | .mk _ it _ :: gs => it.pv ++ pvG gs
end

/-- the value is a new object, whatever its parts are -/
def CE.fresh : CE → Bool
  | .lst _ => true
  | .dic _ => true
  | .comp _ _ => true
  | .bin .add _ _ => true
  | .bin .mul _ _ => true
  | .slc _ _ _ => true
  | .rev _ => true
  | .sset _ => true
  | .bi .list _ => true
  | .bi .dict _ => true
  | .bi .sorted _ => true
  | .bit .list _ => true
  | .bit .sorted _ => true
  | .ite _ a b => a.fresh && b.fresh
  | _ => false

abbrev EnvV := List (Option PV)
abbrev CallF := Nat → List PV → Store → Res (PV × Store)

def bindSeq : List Nat → List PV → EnvV → Res EnvV
  | [], [], env => .ok env
  | i :: is, v :: vs, env => bindSeq is vs (env.set i (some v))
  | _, _, _ => .bad
def bindT : Tgt → PV → EnvV → Res EnvV
  | .nm i, v, env => .ok (env.set i (some v))
  | .tp is, .tup l, env => bindSeq is l env
  | _, _, _ => .bad
def wipeV (env : EnvV) (is : List Nat) : EnvV := is.foldl (fun e i => e.set i none) env
def zipL : List PV → List PV → List PV
  | x :: xs, y :: ys => .tup [x, y] :: zipL xs ys
  | _, _ => []
/-- one after another, what each gives laid together -/
def eachL (f : PV → Store → Res (List PV × Store)) : List PV → Store → Res (List PV × Store)
  | [], S => .ok ([], S)
  | x :: xs, S => do
    let (a, S1) ← f x S
    let (r, S2) ← eachL f xs S1
    .ok (a ++ r, S2)

section
variable (cf : CallF) (gl : Nat → Option PV)
mutual
def evE (env : EnvV) : CE → Store → Res (PV × Store)
  | .non, S => .ok (.non, S)
  | .bl b, S => .ok (.bl b, S)
  | .int i, S => .ok (.int i, S)
  | .str s, S => .ok (.str s, S)
  | .gl g, S => do let v ← ofOpt (gl g); .ok (v, S)
  | .slot i, S => do let v ← ofOpt ((env[i]?).join); .ok (v, S)
  | .tup es, S => do let (vs, S1) ← evL env es S; need (fitsL vs); .ok (.tup vs, S1)
  | .lst es, S => do let (vs, S1) ← evL env es S; need (fitsL vs); .ok (.lst vs, S1)
  | .dic kvs, S => do let (ps, S1) ← evP env kvs S; need (decide (ps.length ≤ 15)); .ok (.dct (dUpd [] ps), S1)
  | .bin op a b, S => do
    let (x, S1) ← evE env a S
    let (y, S2) ← evE env b S1
    let r ← binop op x y
    .ok (r, S2)
  | .neg a, S => do
    let (x, S1) ← evE env a S
    match x with
    | .int i => .ok (.int (-i), S1)
    | _ => .bad
  | .not a, S => do let (x, S1) ← evE env a S; let b ← truthy x; .ok (.bl !b, S1)
  | .and es, S => evAnd env es S
  | .or es, S => evOr env es S
  | .ite c a b, S => do
    let (x, S1) ← evE env c S
    let t ← truthy x
    if t then evE env a S1 else evE env b S1
  | .cmp op a b, S => do
    let (x, S1) ← evE env a S
    let (y, S2) ← evE env b S1
    let r ← cmpop op x y
    .ok (.bl r, S2)
  | .chain o1 o2 a b c, S => do
    let (x, S1) ← evE env a S
    let (y, S2) ← evE env b S1
    let r ← cmpop o1 x y
    if r then do
      let (z, S3) ← evE env c S2
      let r2 ← cmpop o2 y z
      .ok (.bl r2, S3)
    else .ok (.bl false, S2)
  | .idx a i, S => do
    let (x, S1) ← evE env a S
    let (y, S2) ← evE env i S1
    match x with
    | .cel n => do let o ← ofOpt S2[n]?; let r ← subscr o y; .ok (r, S2)
    | _ => do let r ← subscr x y; .ok (r, S2)
  | .slc a lo hi, S => do
    let (x, S1) ← evE env a S
    let (l, S2) ← evO env lo S1
    let (h, S3) ← evO env hi S2
    let r ← slice x l h
    .ok (r, S3)
  | .rev a, S => do let (x, S1) ← evE env a S; let r ← revE x; .ok (r, S1)
  | .call f es, S => do let (vs, S1) ← evL env es S; cf f vs S1
  | .bi b es, S => do let (vs, S1) ← evL env es S; let r ← builtin b vs; .ok (r, S1)
  | .bit b it, S => do let (l, S1) ← evI env it S; let r ← builtin b [.lst l]; .ok (r, S1)
  | .isi t a, S => do let (x, S1) ← evE env a S; need (!isCel x && !isScr x); .ok (.bl (isTy t x), S1)
  | .sset a, S => do let (x, S1) ← evE env a S; let r ← ssetE x; .ok (r, S1)
  | .lset a, S => do let (x, S1) ← evE env a S; let r ← lsetE x; .ok (r, S1)
  | .meth m o es, S => do
    let (x, S1) ← evE env o S
    let (vs, S2) ← evL env es S1
    let r ← method m x vs
    .ok (r, S2)
  | .comp gs elt, S => do
    let (l, S1) ← evC env gs S (fun env' S' => evE env' elt S')
    need (fitsL l)
    .ok (.lst l, S1)
def evL (env : EnvV) : List CE → Store → Res (List PV × Store)
  | [], S => .ok ([], S)
  | e :: es, S => do
    let (v, S1) ← evE env e S
    let (vs, S2) ← evL env es S1
    .ok (v :: vs, S2)
def evO (env : EnvV) : Option CE → Store → Res (Option PV × Store)
  | none, S => .ok (none, S)
  | some e, S => do let (v, S1) ← evE env e S; .ok (some v, S1)
def evP (env : EnvV) : List CE → Store → Res (List (PV × PV) × Store)
  | [], S => .ok ([], S)
  | [_], _ => .bad
  | k :: v :: r, S => do
    let (x, S1) ← evE env k S
    let (y, S2) ← evE env v S1
    need x.isMix
    let (r, S3) ← evP env r S2
    .ok ((x, y) :: r, S3)
def evAnd (env : EnvV) : List CE → Store → Res (PV × Store)
  | [], _ => .bad
  | [e], S => evE env e S
  | e :: es, S => do
    let (x, S1) ← evE env e S
    let t ← truthy x
    if t then evAnd env es S1 else .ok (x, S1)
def evOr (env : EnvV) : List CE → Store → Res (PV × Store)
  | [], _ => .bad
  | [e], S => evE env e S
  | e :: es, S => do
    let (x, S1) ← evE env e S
    let t ← truthy x
    if t then .ok (x, S1) else evOr env es S1
def evI (env : EnvV) : IT → Store → Res (List PV × Store)
  | .val e, S => do let (x, S1) ← evE env e S; let l ← walk x; .ok (l, S1)
  | .rng es, S => do let (vs, S1) ← evL env es S; let l ← rangeE vs; .ok (l, S1)
  | .items e, S => do
    let (x, S1) ← evE env e S
    match x with
    | .dct l => .ok (l.map fun kv => .tup [kv.1, kv.2], S1)
    | _ => .bad
  | .zip a b, S => do
    let (x, S1) ← evE env a S
    let (y, S2) ← evE env b S1
    let l ← walk x
    let m ← walk y
    .ok (zipL l m, S2)
/-- the tests of a for: all of them -/
def evT (env : EnvV) : List CE → Store → Res (Bool × Store)
  | [], S => .ok (true, S)
  | e :: es, S => do
    let (x, S1) ← evE env e S
    let t ← truthy x
    if t then evT env es S1 else .ok (false, S1)
def evC (env : EnvV) : List Gen → Store → (EnvV → Store → Res (PV × Store)) → Res (List PV × Store)
  | [], _, _ => .bad
  | .mk t it ifs :: gs, S, k => do
    let (xs, S1) ← evI env it S
    eachL (fun x S2 => do
      let env1 ← bindT t x (wipeV env (t.slots ++ ownOf gs))
      let (b, S3) ← evT env1 ifs S2
      if b then evD env1 gs S3 k else .ok ([], S3)) xs S1
/-- the fors behind the first -/
def evD (env : EnvV) : List Gen → Store → (EnvV → Store → Res (PV × Store)) → Res (List PV × Store)
  | [], S, k => do let (v, S1) ← k env S; .ok ([v], S1)
  | .mk t it ifs :: gs, S, k => do
    let (xs, S1) ← evI env it S
    eachL (fun x S2 => do
      let env1 ← bindT t x (wipeV env t.slots)
      let (b, S3) ← evT env1 ifs S2
      if b then evD env1 gs S3 k else .ok ([], S3)) xs S1
end
end
end Ev

namespace Ev
open Res PV
/-! ### statements -/
/-- a slot: not set; a value that stays as it is; an object that this slot alone holds -/
inductive Sl where
  | un | fz (v : PV) | ow (v : PV)
abbrev Env := List Sl
def Sl.val : Sl → Option PV
  | .un => none
  | .fz v => some v
  | .ow v => some v
def Sl.freeze : Sl → Sl
  | .ow v => .fz v
  | s => s
def vals (env : Env) : EnvV := env.map Sl.val
def demoteFrom : Nat → Env → List Nat → Env
  | _, [], _ => []
  | k, s :: r, is => (if is.contains k then s.freeze else s) :: demoteFrom (k + 1) r is
def demote (env : Env) (is : List Nat) : Env := demoteFrom 0 env is
/-- a value that may be changed has left these slots' own objects -/
def dem (v : PV) (env : Env) (is : List Nat) : Env := if v.imm then env else demote env is
def mkSl (e : CE) (v : PV) : Sl := if e.fresh && v.isMut then .ow v else .fz v

inductive Flow where
  | nx | ret (v : PV) | cont | brk
mutual
inductive CS where
  | set (i : Nat) (e : CE) | par (is : List Nat) (es : List CE) | parI (is : List Nat) (es : List CE) | unp (is : List Nat) (e : CE)
  | put (x : Nat) (k v : CE) | augi (x : Nat) (k : CE) (op : Bop) (e : CE) | aug (i : Nat) (op : Bop) (e : CE)
  | mut (m : Mut) (x : Nat) (e : CE) | popTo (i x : Nat)
  | cell (i : Nat) (e : CE)
  | ret (e : CE) | retn | ifs (c : CE) (a b : List CS) | whil (c : CE) (b : List CS) | for (t : Tgt) (it : IT) (b : List CS)
  | cont | brk | pass | doc
end
def bindSeqE : List Nat → List PV → Env → Res Env
  | [], [], env => .ok env
  | i :: is, v :: vs, env => bindSeqE is vs (env.set i (.fz v))
  | _, _, _ => .bad
def bindE : Tgt → PV → Env → Res Env
  | .nm i, v, env => .ok (env.set i (.fz v))
  | .tp is, .tup l, env => bindSeqE is l env
  | _, _, _ => .bad
/-- x.pop() of a list -/
def popE : PV → Res (PV × PV)
  | .lst l => do let v ← ofOpt l.getLast?; .ok (v, .lst l.dropLast)
  | _ => .bad
def mutE : Mut → PV → PV → Res PV
  | .append, .lst l, v => do need (decide (l.length < line)); .ok (.lst (l ++ [v]))
  | .extend, .lst l, .lst m => do need (fitsL (l ++ m)); .ok (.lst (l ++ m))
  | .update, .dct l, .dct m => do need (decide (l.length + m.length < line) && (l.all fun kv => kv.1.isMix) && m.all fun kv => kv.1.isMix); .ok (.dct (dUpd l m))
  | .pop, .dct l, k => do need k.isKey; let _ ← ofOpt (dGet l k); .ok (.dct (dDel l k))
  | _, _, _ => .bad
def putE : PV → PV → PV → Res PV
  | .dct l, k, v => do need (k.isKey && decide (l.length < line)); .ok (.dct (dPut l k v))
  | .lst l, .int i, v => do need (small62 i); let j ← ofOpt (place l.length i); .ok (.lst (l.set j v))
  | _, _, _ => .bad
/-- an own object is changed -/
def modOwn (env : Env) (x : Nat) (f : PV → Res PV) : Res Env :=
  match env[x]? with
  | some (.ow v) => do let r ← f v; .ok (env.set x (.ow r))
  | _ => .bad
/-- numbers alone -/
def augE : Bop → PV → PV → Res Int
  | .add, .int i, .int j => .ok (i + j)
  | .sub, .int i, .int j => .ok (i - j)
  | _, _, _ => .bad
abbrev Out := Flow × Env × Store
def forL (t : Tgt) (body : Env → Store → Res Out) : List PV → Env → Store → Res Out
  | [], env, S => .ok (.nx, env, S)
  | x :: xs, env, S => do
    let env1 ← bindE t x env
    let (f, env2, S2) ← body env1 S
    match f with
    | .ret v => .ok (.ret v, env2, S2)
    | .brk => .ok (.nx, env2, S2)
    | _ => forL t body xs env2 S2
def whileL (cond : Env → Store → Res (Bool × Store)) (body : Env → Store → Res Out) : Nat → Env → Store → Res Out
  | 0, _, _ => .bad
  | n + 1, env, S => do
    let (b, S1) ← cond env S
    if b then do
      let (f, env2, S2) ← body env S1
      match f with
      | .ret v => .ok (.ret v, env2, S2)
      | .brk => .ok (.nx, env2, S2)
      | _ => whileL cond body n env2 S2
    else .ok (.nx, env, S1)
def setI : List Nat → List PV → Env → Res Env
  | [], [], env => .ok env
  | i :: is, v :: vs, env => do need v.imm; setI is vs (env.set i (.fz v))
  | _, _, _ => .bad
section
variable (cf : CallF) (gl : Nat → Option PV) (W : Nat)
/-- what a for walks; which slots are held still by it -/
def evF (env : Env) : IT → Store → Res (List PV × Env × Store)
  | .val e, S => do
    let (x, S1) ← evE cf gl (vals env) e S
    let l ← walk x
    .ok (l, dem x env e.tv, S1)
  | .rng es, S => do
    let (l, S1) ← evI cf gl (vals env) (.rng es) S
    .ok (l, env, S1)
  | .items e, S => do
    let (x, S1) ← evE cf gl (vals env) e S
    match x with
    | .dct l => .ok (l.map fun kv => .tup [kv.1, kv.2], dem x env e.tv, S1)
    | _ => .bad
  | .zip a b, S => do
    let (x, S1) ← evE cf gl (vals env) a S
    let (y, S2) ← evE cf gl (vals env) b S1
    let l ← walk x
    let m ← walk y
    .ok (zipL l m, dem y (dem x env a.tv) b.tv, S2)
/-- one after another; what is stored already is not read -/
def evPar : List Nat → List Nat → List CE → Env → Store → Res (Env × Store)
  | _, [], [], env, S => .ok (env, S)
  | pend, i :: is, e :: es, env, S => do
    let (v, S1) ← evE cf gl (wipeV (vals env) pend) e S
    evPar (i :: pend) is es ((dem v env e.tv).set i (mkSl e v)) S1
  | _, _, _, _, _ => .bad
mutual
def evS (env : Env) : CS → Store → Res Out
  | .set i e, S => do
    let (v, S1) ← evE cf gl (vals env) e S
    .ok (.nx, (dem v env e.tv).set i (mkSl e v), S1)
  | .par is es, S => do
    let (env1, S1) ← evPar cf gl [] is es env S
    .ok (.nx, env1, S1)
  | .parI is es, S => do
    let (vs, S1) ← evL cf gl (vals env) es S
    let env1 ← setI is vs env
    .ok (.nx, env1, S1)
  | .unp is e, S => do
    let (v, S1) ← evE cf gl (vals env) e S
    let env1 ← bindE (.tp is) v (dem v env e.tv)
    .ok (.nx, env1, S1)
  | .put x k e, S => do
    let (v, S1) ← evE cf gl (vals env) e S
    let (kv, S2) ← evE cf gl (vals env) k S1
    let env1 ← modOwn (dem v env e.tv) x (fun o => putE o kv v)
    .ok (.nx, env1, S2)
  | .augi x k op e, S => do
    match env[x]? with
    | some (.fz (.cel n)) => do
      let (kv, S1) ← evE cf gl (vals env) k S
      let o ← ofOpt S1[n]?
      need kv.isKey
      match o with
      | .dct l => do
        let old ← ofOpt (dGet l kv)
        let (v, S2) ← evE cf gl (vals env) e S1
        let r ← augE op old v
        let o2 ← ofOpt S2[n]?
        match o2 with
        | .dct l2 => do
          need (decide (l2.length < line))
          .ok (.nx, env, S2.set n (.dct (dPut l2 kv (.int r))))
        | _ => .bad
      | _ => .bad
    | _ => .bad
  | .aug i op e, S => do
    let old ← ofOpt ((vals env)[i]?).join
    let (v, S1) ← evE cf gl (vals env) e S
    let r ← augE op old v
    .ok (.nx, env.set i (.fz (.int r)), S1)
  | .mut m x e, S => do
    let (v, S1) ← evE cf gl (vals env) e S
    let env1 ← modOwn (match m with
      | .append => dem v env e.tv
      | _ => if v.partsImm then env else demote env e.pv) x (fun o => mutE m o v)
    .ok (.nx, env1, S1)
  | .popTo i x, S =>
    match env[x]? with
    | some (.ow o) => do
      let (v, r) ← popE o
      .ok (.nx, (env.set x (.ow r)).set i (.fz v), S)
    | _ => .bad
  | .cell i e, S => do
    need S.isEmpty
    let (v, S1) ← evE cf gl (vals env) e S
    need (e.fresh && v.isMut && S1.isEmpty)
    .ok (.nx, (if v.partsImm then env else demote env e.pv).set i (.fz (.cel 0)), [v])
  | .ret e, S => do let (v, S1) ← evE cf gl (vals env) e S; .ok (.ret v, env, S1)
  | .retn, S => .ok (.ret .non, env, S)
  | .ifs c a b, S => do
    let (x, S1) ← evE cf gl (vals env) c S
    let t ← truthy x
    if t then evB env a S1 else evB env b S1
  | .whil c b, S =>
    whileL (fun env1 S1 => do let (x, S2) ← evE cf gl (vals env1) c S1; let t ← truthy x; .ok (t, S2)) (fun env1 S1 => evB env1 b S1) W env S
  | .for t it b, S => do
    let (l, env1, S1) ← evF cf gl env it S
    forL t (fun env2 S2 => evB env2 b S2) l env1 S1
  | .cont, S => .ok (.cont, env, S)
  | .brk, S => .ok (.brk, env, S)
  | .pass, S => .ok (.nx, env, S)
  | .doc, S => .ok (.nx, env, S)
def evB (env : Env) : List CS → Store → Res Out
  | [], S => .ok (.nx, env, S)
  | c :: cs, S => do
    let (f, env1, S1) ← evS env c S
    match f with
    | .nx => evB env1 cs S1
    | _ => .ok (f, env1, S1)
end
end

/-! ### defs that call defs -/
structure FC where
  np : Nat
  ns : Nat
  body : List CS
def startE (fc : FC) (args : List PV) : Env := args.map .fz ++ List.replicate (fc.ns - fc.np) .un
def finishC (n : Nat) : Out → Res (PV × Store)
  | (.ret v, _, S) => do need (v.cb n && (S.take n).all (·.cb n)); .ok (v, S.take n)
  | (.nx, _, S) => do need ((S.take n).all (·.cb n)); .ok (.non, S.take n)
  | _ => .bad
def callAt (tab : List FC) (gl : Nat → Option PV) (W : Nat) : Nat → CallF
  | 0, _, _, _ => .bad
  | k + 1, f, args, S =>
    match tab[f]? with
    | some fc => do
      need (decide (args.length = fc.np))
      let out ← evB (callAt tab gl W k) gl W (startE fc args) fc.body S
      finishC S.length out
    | none => .bad
end Ev
end

section
/-! the order of alike values -/
set_option autoImplicit false
namespace Ev
namespace PV
theorem ltN_anti : ∀ a b : List Nat, ltN a b = false → ltN b a = false → a = b
  | [], [], _, _ => rfl
  | [], _ :: _, h, _ => by simp [ltN] at h
  | _ :: _, [], _, h => by simp [ltN] at h
  | x :: xs, y :: ys, h, k => by
    simp only [ltN] at h k
    by_cases e : x = y
    · subst e
      simp only [if_true] at h k
      rw [ltN_anti xs ys h k]
    · rw [if_neg e] at h
      rw [if_neg fun z => e z.symm] at k
      have h := of_decide_eq_false h
      have k := of_decide_eq_false k
      omega
mutual
theorem eqv_self : ∀ a : PV, a.alike a = true → a.eqv a = true
  | .non, _ => rfl
  | .bl _, _ => by simp [eqv]
  | .int _, _ => by simp [eqv]
  | .str _, _ => by simp [eqv]
  | .tup l, h => by simp only [eqv]; exact eqvL_self l (by simpa [alike] using h)
  | .lst l, h => by simp only [eqv]; exact eqvL_self l (by simpa [alike] using h)
  | .dct _, h => by simp [alike] at h
  | .cel _, h => by simp [alike] at h
  | .scr _, h => by simp [alike] at h
theorem eqvL_self : ∀ a : List PV, alikeL a a = true → eqvL a a = true
  | [], _ => rfl
  | x :: xs, h => by
    simp only [alikeL, Bool.and_eq_true] at h
    simp only [eqvL, eqv_self x h.1, eqvL_self xs h.2, Bool.and_self]
end
mutual
theorem eqv_eq : ∀ a b : PV, a.alike b = true → a.eqv b = true → a = b
  | .non, b, h, _ => by cases b <;> first | rfl | simp [alike] at h
  | .bl x, b, h, k => by
    cases b with
    | bl y => simp [eqv] at k; rw [k]
    | _ => simp [alike] at h
  | .int x, b, h, k => by
    cases b with
    | int y => simp [eqv] at k; rw [k]
    | _ => simp [alike] at h
  | .str x, b, h, k => by
    cases b with
    | str y => simp [eqv] at k; rw [k]
    | _ => simp [alike] at h
  | .tup x, b, h, k => by
    cases b with
    | tup y => rw [eqvL_eq x y (by simpa [alike] using h) (by simpa [eqv] using k)]
    | _ => simp [alike] at h
  | .lst x, b, h, k => by
    cases b with
    | lst y => rw [eqvL_eq x y (by simpa [alike] using h) (by simpa [eqv] using k)]
    | _ => simp [alike] at h
  | .dct _, _, h, _ => by simp [alike] at h
  | .cel _, _, h, _ => by simp [alike] at h
  | .scr _, _, h, _ => by simp [alike] at h
theorem eqvL_eq : ∀ a b : List PV, alikeL a b = true → eqvL a b = true → a = b
  | [], [], _, _ => rfl
  | [], _ :: _, _, k => by simp [eqvL] at k
  | _ :: _, [], _, k => by simp [eqvL] at k
  | x :: xs, y :: ys, h, k => by
    simp only [alikeL, eqvL, Bool.and_eq_true] at h k
    rw [eqv_eq x y h.1 k.1, eqvL_eq xs ys h.2 k.2]
end
mutual
theorem alike_sym : ∀ a b : PV, a.alike b = b.alike a
  | .non, b => by cases b <;> rfl
  | .bl _, b => by cases b <;> rfl
  | .int _, b => by cases b <;> rfl
  | .str _, b => by cases b <;> rfl
  | .tup xs, b => by
    cases b with
    | tup ys => simp only [alike]; exact alikeL_sym xs ys
    | _ => simp [alike]
  | .lst xs, b => by
    cases b with
    | lst ys => simp only [alike]; exact alikeL_sym xs ys
    | _ => simp [alike]
  | .dct _, b => by cases b <;> rfl
  | .cel _, b => by cases b <;> rfl
  | .scr _, b => by cases b <;> rfl
theorem alikeL_sym : ∀ a b : List PV, alikeL a b = alikeL b a
  | [], [] => rfl
  | [], _ :: _ => rfl
  | _ :: _, [] => rfl
  | x :: xs, y :: ys => by simp only [alikeL, alike_sym x y, alikeL_sym xs ys]
end
mutual
theorem ltb_anti : ∀ a b : PV, a.alike b = true → a.ltb b = false → b.ltb a = false → a = b
  | .non, b, h, _, _ => by cases b <;> first | rfl | simp [alike] at h
  | .bl x, b, h, k, l => by
    cases b with
    | bl y => cases x <;> cases y <;> first | rfl | simp [ltb] at k l
    | _ => simp [alike] at h
  | .int x, b, h, k, l => by
    cases b with
    | int y =>
      simp only [ltb] at k l
      have k := of_decide_eq_false k
      have l := of_decide_eq_false l
      have : x = y := by omega
      rw [this]
    | _ => simp [alike] at h
  | .str x, b, h, k, l => by
    cases b with
    | str y => rw [ltN_anti x y (by simpa [ltb] using k) (by simpa [ltb] using l)]
    | _ => simp [alike] at h
  | .tup x, b, h, k, l => by
    cases b with
    | tup y => rw [ltbL_anti x y (by simpa [alike] using h) (by simpa [ltb] using k) (by simpa [ltb] using l)]
    | _ => simp [alike] at h
  | .lst x, b, h, k, l => by
    cases b with
    | lst y => rw [ltbL_anti x y (by simpa [alike] using h) (by simpa [ltb] using k) (by simpa [ltb] using l)]
    | _ => simp [alike] at h
  | .dct _, _, h, _, _ => by simp [alike] at h
  | .cel _, _, h, _, _ => by simp [alike] at h
  | .scr _, _, h, _, _ => by simp [alike] at h
theorem ltbL_anti : ∀ a b : List PV, alikeL a b = true → ltbL a b = false → ltbL b a = false → a = b
  | [], [], _, _, _ => rfl
  | [], _ :: _, _, k, _ => by simp [ltbL] at k
  | _ :: _, [], _, _, l => by simp [ltbL] at l
  | x :: xs, y :: ys, h, k, l => by
    simp only [alikeL, Bool.and_eq_true] at h
    simp only [ltbL] at k l
    by_cases e : x = y
    · subst e
      have s := eqv_self x h.1
      rw [if_pos s] at k l
      rw [ltbL_anti xs ys h.2 k l]
    · exfalso
      have e1 : ¬ x.eqv y = true := fun z => e (eqv_eq x y h.1 z)
      have e2 : ¬ y.eqv x = true := fun z => e (eqv_eq y x (by rw [alike_sym]; exact h.1) z).symm
      rw [if_neg e1] at k
      rw [if_neg e2] at l
      exact e (ltb_anti x y h.1 k l)
end
end PV
end Ev
end

section
set_option autoImplicit false
set_option Elab.async false
set_option linter.all false
set_option maxRecDepth 100000
namespace EvB
open PySem PySem.Spec PyProof.Rows L2
open Ev (PV Store Res)

abbrev toS (s : List Nat) : Str := ⟨s.toArray⟩
theorem toS_inj {a b : List Nat} : toS a = toS b ↔ a = b := by
  constructor
  · intro h
    have h1 := congrArg (fun s : Str => s.cps.toList) h
    simpa using h1
  · intro h
    rw [h]

mutual
/-- a value as a key -/
def toK : PV → NestedKey
  | .non => .none
  | .bl b => .num (Ev.PV.b2i b)
  | .int i => .num i
  | .str s => .text (toS s)
  | .tup l => .tup (toKs l)
  | _ => .none
def toKs : List PV → List NestedKey
  | [] => []
  | x :: xs => toK x :: toKs xs
end

/-- a dict's entries: each key's own value, its value -/
abbrev Ent := NestedKey × V × V
def DctO (w : World) (a : Addr) (ep : Nat) (kvs : List Ent) : HO := .ext fun h =>
  kvs.length ≤ sizeLine ∧ (a == sysModules) = false ∧ (kvs.map (·.1)).Nodup ∧ ∃ o es, h.get? a = some o ∧ o.ExactDict ∧ o.data = .dict es ep ∧
    Paired (fun (p : Ent) (e : DictEntry) => e.hash = p.1.hash w ∧ RelV p.2.1 e.key ∧ RelV p.2.2 e.val) kvs es.toList

/-- the law's script: read alone -/
def Scr (K : PySem.W.Frag) (H : Hp) (a : Addr) (xs : List V) : Prop := (∃ o, H a = some (.frz o (.lst xs))) ∨
  ∃ (o : Obj) (its : Array Value) (n : Nat), K.lookup a = some o ∧ o.cls = .type "list" ∧ o.dict = none ∧ o.data = .seq its n ∧ its.size ≤ sizeLine ∧ Vals xs its.toList
theorem Scr.sq {K : PySem.W.Frag} {H : Hp} {a : Addr} {xs : List V} (h : Scr K H a xs) : SqL K H a xs := by
  rcases h with ⟨o, h⟩ | h
  · exact .inl (.inr ⟨o, h⟩)
  · exact .inr h

mutual
/-- the value v holds d; P: what objects that may change may lie within -/
inductive Rz (w : World) (K : PySem.W.Frag) (al : List Addr) (H : Hp) (P : Addr → Prop) : V → PV → Prop
  | non : Rz w K al H P .non .non
  | bl (b : Bool) : Rz w K al H P (.bl b) (.bl b)
  | int (i : Int) : Rz w K al H P (.int i) (.int i)
  | str (s : List Nat) : s.length ≤ sizeLine → Rz w K al H P (.str (toS s)) (.str s)
  | tup {a : Addr} {xs : List V} {ds : List PV} : SqT K H a xs → RzL w K al H P xs ds → Rz w K al H P (.ref a) (.tup ds)
  | lst {a : Addr} {xs : List V} {ds : List PV} : H a = some (.lst xs) → P a → RzL w K al H P xs ds → Rz w K al H P (.ref a) (.lst ds)
  | scr {a : Addr} {ns : List Int} : Scr K H a (ns.map V.int) → Rz w K al H P (.ref a) (.scr ns)
  | dct {a : Addr} {ep : Nat} {es : List Ent} {ds : List (PV × PV)} : H a = some (DctO w a ep es) → P a → RzD w K al H P es ds → Rz w K al H P (.ref a) (.dct ds)
  | cel {a : Addr} {n : Nat} : al[n]? = some a → Rz w K al H P (.ref a) (.cel n)
inductive RzL (w : World) (K : PySem.W.Frag) (al : List Addr) (H : Hp) (P : Addr → Prop) : List V → List PV → Prop
  | nil : RzL w K al H P [] []
  | cons {v : V} {vs : List V} {d : PV} {ds : List PV} : Rz w K al H P v d → RzL w K al H P vs ds → RzL w K al H P (v :: vs) (d :: ds)
inductive RzD (w : World) (K : PySem.W.Frag) (al : List Addr) (H : Hp) (P : Addr → Prop) : List Ent → List (PV × PV) → Prop
  | nil : RzD w K al H P [] []
  | cons {e : Ent} {es : List Ent} {k v : PV} {ds : List (PV × PV)} : e.1 = toK k → k.keyable = true → k.depth ≤ 8 → Rz w K al H P e.2.1 k → Rz w K al H P e.2.2 v → RzD w K al H P es ds → RzD w K al H P (e :: es) ((k, v) :: ds)
end

/-- nothing is lost but what may change at C -/
def Ext (C : Addr → Prop) (H H' : Hp) : Prop := ∀ b o, H b = some o → H' b = some o ∨ (C b ∧ Mut (some o))
theorem Ext.refl (C : Addr → Prop) (H : Hp) : Ext C H H := fun _ _ h => .inl h
theorem Ext.trans {C : Addr → Prop} {H H1 H2 : Hp} (a : Ext C H H1) (b : Ext C H1 H2) : Ext C H H2 := fun c o h => by
  rcases a c o h with h1 | h1
  · exact b c o h1
  · exact .inr h1
theorem Ext.mono {C C' : Addr → Prop} {H H' : Hp} (a : Ext C H H') (h : ∀ b, C b → C' b) : Ext C' H H' := fun c o e => (a c o e).imp id fun z => ⟨h c z.1, z.2⟩
theorem Ext.same {C : Addr → Prop} {H H' : Hp} (h : Same H H') : Ext C H H' := fun b o e => .inl (h b o e)
theorem Ext.new {C : Addr → Prop} {H : Hp} {p : Addr} {o : HO} (h : H p = none) : Ext C H (upd H p o) := fun b x e => .inl (by rw [upd_ne (ne_of_none e h)]; exact e)
theorem Ext.put {C : Addr → Prop} {H : Hp} {p : Addr} {o x : HO} (h : H p = some x) (m : Mut (some x)) (c : C p) : Ext C H (upd H p o) := fun b y e => by
  by_cases hb : b = p
  · subst hb
    rw [h] at e
    cases e
    exact .inr ⟨c, m⟩
  · exact .inl (by rw [upd_ne hb]; exact e)
theorem Ext.free {C : Addr → Prop} {H H' : Hp} (e : Ext C H H') {b : Addr} (h : H' b = none) : H b = none ∨ C b := by
  cases q : H b with
  | none => exact .inl rfl
  | some o =>
    rcases e b o q with z | z
    · rw [h] at z
      cases z
    · exact .inr z.1

section
variable {w : World} {K : PySem.W.Frag} {al : List Addr} {H H' : Hp} {P P' C : Addr → Prop}
theorem rd_ext {a : Addr} {u : HO} (e : Ext C H H') (c : ¬ C a) (h : Rd H a u) : Rd H' a u := by
  rcases h with h | ⟨o, h⟩
  · rcases e a _ h with z | z
    · exact .inl z
    · exact absurd z.1 c
  · rcases e a _ h with z | z
    · exact .inr ⟨o, z⟩
    · exact absurd z.1 c
theorem sqT_ext {a : Addr} {xs : List V} (e : Ext C H H') (h : SqT K H a xs) : SqT K H' a xs := by
  rcases h with (h | ⟨o, h⟩) | h
  · rcases e a _ h with z | z
    · exact .inl (.inl z)
    · exact z.2.elim
  · rcases e a _ h with z | z
    · exact .inl (.inr ⟨o, z⟩)
    · exact z.2.elim
  · exact .inr h
theorem Scr.ext {a : Addr} {xs : List V} (h : Scr K H a xs) (e : Ext C H H') : Scr K H' a xs := by
  rcases h with ⟨o, h⟩ | h
  · rcases e a _ h with z | z
    · exact .inl ⟨o, z⟩
    · exact z.2.elim
  · exact .inr h
mutual
theorem Rz.ext (e : Ext C H H') (c : ∀ a, P a → ¬ C a) : ∀ {v : V} (d : PV), Rz w K al H P v d → Rz w K al H' P v d
  | _, .non, h => by cases h; exact .non
  | _, .bl b, h => by cases h; exact .bl b
  | _, .int i, h => by cases h; exact .int i
  | _, .str s, h => by cases h with | str _ hs => exact .str s hs
  | _, .tup ds, h => by
    cases h with
    | tup h1 h2 => exact .tup (sqT_ext e h1) (RzL.ext e c ds h2)
  | _, .lst ds, h => by
    cases h with
    | lst h1 h2 h3 =>
      rcases e _ _ h1 with z | z
      · exact .lst z h2 (RzL.ext e c ds h3)
      · exact absurd z.1 (c _ h2)
  | _, .dct ds, h => by
    cases h with
    | dct h1 h2 h3 =>
      rcases e _ _ h1 with z | z
      · exact .dct z h2 (RzD.ext e c ds h3)
      · exact absurd z.1 (c _ h2)
  | _, .cel n, h => by cases h with
    | cel h1 => exact .cel h1
  | _, .scr ns, h => by cases h with
    | scr h1 => exact .scr (h1.ext e)
theorem RzL.ext (e : Ext C H H') (c : ∀ a, P a → ¬ C a) : ∀ {vs : List V} (ds : List PV), RzL w K al H P vs ds → RzL w K al H' P vs ds
  | _, [], h => by cases h; exact .nil
  | _, d :: ds, h => by
    cases h with
    | cons h1 h2 => exact .cons (Rz.ext e c d h1) (RzL.ext e c ds h2)
theorem RzD.ext (e : Ext C H H') (c : ∀ a, P a → ¬ C a) : ∀ {es : List Ent} (ds : List (PV × PV)), RzD w K al H P es ds → RzD w K al H' P es ds
  | _, [], h => by cases h; exact .nil
  | _, (k, v) :: ds, h => by
    cases h with
    | cons h1 h0 h0' h2 h3 h4 => exact .cons h1 h0 h0' (Rz.ext e c k h2) (Rz.ext e c v h3) (RzD.ext e c ds h4)
end
mutual
theorem Rz.mono (p : ∀ a o, H a = some o → P a → P' a) : ∀ {v : V} (d : PV), Rz w K al H P v d → Rz w K al H P' v d
  | _, .non, h => by cases h; exact .non
  | _, .bl b, h => by cases h; exact .bl b
  | _, .int i, h => by cases h; exact .int i
  | _, .str s, h => by cases h with | str _ hs => exact .str s hs
  | _, .tup ds, h => by
    cases h with
    | tup h1 h2 => exact .tup h1 (RzL.mono p ds h2)
  | _, .lst ds, h => by
    cases h with
    | lst h1 h2 h3 => exact .lst h1 (p _ _ h1 h2) (RzL.mono p ds h3)
  | _, .dct ds, h => by
    cases h with
    | dct h1 h2 h3 => exact .dct h1 (p _ _ h1 h2) (RzD.mono p ds h3)
  | _, .cel n, h => by cases h with
    | cel h1 => exact .cel h1
  | _, .scr ns, h => by cases h with
    | scr h1 => exact .scr h1
theorem RzL.mono (p : ∀ a o, H a = some o → P a → P' a) : ∀ {vs : List V} (ds : List PV), RzL w K al H P vs ds → RzL w K al H P' vs ds
  | _, [], h => by cases h; exact .nil
  | _, d :: ds, h => by
    cases h with
    | cons h1 h2 => exact .cons (Rz.mono p d h1) (RzL.mono p ds h2)
theorem RzD.mono (p : ∀ a o, H a = some o → P a → P' a) : ∀ {es : List Ent} (ds : List (PV × PV)), RzD w K al H P es ds → RzD w K al H P' es ds
  | _, [], h => by cases h; exact .nil
  | _, (k, v) :: ds, h => by
    cases h with
    | cons h1 h0 h0' h2 h3 h4 => exact .cons h1 h0 h0' (Rz.mono p k h2) (Rz.mono p v h3) (RzD.mono p ds h4)
end
mutual
/-- what holds nothing that may change holds it whatever is allowed, and stays -/
theorem Rz.imm (e : Ext C H H') : ∀ {v : V} (d : PV), d.imm = true → Rz w K al H P v d → Rz w K al H' P' v d
  | _, .non, _, h => by cases h; exact .non
  | _, .bl b, _, h => by cases h; exact .bl b
  | _, .int i, _, h => by cases h; exact .int i
  | _, .str s, _, h => by cases h with | str _ hs => exact .str s hs
  | _, .tup ds, i, h => by
    cases h with
    | tup h1 h2 => exact .tup (sqT_ext e h1) (RzL.imm e ds (by simpa [Ev.PV.imm] using i) h2)
  | _, .lst _, i, _ => by simp [Ev.PV.imm] at i
  | _, .dct _, i, _ => by simp [Ev.PV.imm] at i
  | _, .cel _, i, _ => by simp [Ev.PV.imm] at i
  | _, .scr ns, _, h => by cases h with
    | scr h1 => exact .scr (h1.ext e)
theorem RzL.imm (e : Ext C H H') : ∀ {vs : List V} (ds : List PV), Ev.PV.immL ds = true → RzL w K al H P vs ds → RzL w K al H' P' vs ds
  | _, [], _, h => by cases h; exact .nil
  | _, d :: ds, i, h => by
    simp only [Ev.PV.immL, Bool.and_eq_true] at i
    cases h with
    | cons h1 h2 => exact .cons (Rz.imm e d i.1 h1) (RzL.imm e ds i.2 h2)
end
mutual
theorem imm_of_key : ∀ d : PV, d.keyable = true → d.imm = true
  | .non, _ => rfl
  | .bl _, _ => rfl
  | .int _, _ => rfl
  | .str _, _ => rfl
  | .tup ds, h => by
    simp only [Ev.PV.keyable] at h
    simp only [Ev.PV.imm]
    exact immL_of_key ds h
  | .lst _, h => by simp [Ev.PV.keyable] at h
  | .dct _, h => by simp [Ev.PV.keyable] at h
  | .cel _, h => by simp [Ev.PV.keyable] at h
  | .scr _, h => by simp [Ev.PV.keyable] at h
theorem immL_of_key : ∀ ds : List PV, Ev.PV.keyableL ds = true → Ev.PV.immL ds = true
  | [], _ => rfl
  | d :: ds, h => by
    simp only [Ev.PV.keyableL, Bool.and_eq_true] at h
    simp only [Ev.PV.immL, imm_of_key d h.1, immL_of_key ds h.2, Bool.and_self]
end
theorem RzL.length : ∀ {vs : List V} {ds : List PV}, RzL w K al H P vs ds → vs.length = ds.length
  | _, _, .nil => rfl
  | _, _, .cons _ t => by simp [RzL.length t]
theorem RzD.length : ∀ {vs : List Ent} {ds : List (PV × PV)}, RzD w K al H P vs ds → vs.length = ds.length
  | _, _, .nil => rfl
  | _, _, .cons _ _ _ _ _ t => by simp [RzD.length t]
theorem RzL.append : ∀ {xs ys : List V} {ds es : List PV}, RzL w K al H P xs ds → RzL w K al H P ys es → RzL w K al H P (xs ++ ys) (ds ++ es)
  | _, _, _, _, .nil, s => s
  | _, _, _, _, .cons r t, s => .cons r (RzL.append t s)
theorem RzL.get : ∀ {xs : List V} {ds : List PV} {i : Nat} {d : PV}, RzL w K al H P xs ds → ds[i]? = some d → ∃ v, xs[i]? = some v ∧ Rz w K al H P v d
  | _, _, _, _, .nil, e => by simp at e
  | _, _, 0, _, .cons r _, e => by simp at e; subst e; exact ⟨_, rfl, r⟩
  | _, _, i + 1, d, .cons _ t, e => by
    obtain ⟨u, h1, h2⟩ := RzL.get (i := i) (d := d) t (by simpa using e)
    exact ⟨u, by simpa using h1, h2⟩
theorem RzL.take : ∀ {xs : List V} {ds : List PV} (n : Nat), RzL w K al H P xs ds → RzL w K al H P (xs.take n) (ds.take n)
  | _, _, 0, _ => .nil
  | _, _, _ + 1, .nil => .nil
  | _, _, n + 1, .cons r t => .cons r (RzL.take n t)
theorem RzL.drop : ∀ {xs : List V} {ds : List PV} (n : Nat), RzL w K al H P xs ds → RzL w K al H P (xs.drop n) (ds.drop n)
  | _, _, 0, r => r
  | _, _, _ + 1, .nil => .nil
  | _, _, n + 1, .cons _ t => RzL.drop n t
theorem RzL.snoc {xs : List V} {ds : List PV} {v : V} {d : PV} (h : RzL w K al H P xs ds) (r : Rz w K al H P v d) : RzL w K al H P (xs ++ [v]) (ds ++ [d]) := h.append (.cons r .nil)
theorem RzL.reverse : ∀ {xs : List V} {ds : List PV}, RzL w K al H P xs ds → RzL w K al H P xs.reverse ds.reverse
  | _, _, .nil => .nil
  | _, _, .cons r t => by
    rw [List.reverse_cons, List.reverse_cons]
    exact (RzL.reverse t).snoc r
end

/-! ### as data of the library -/
mutual
def toD : PV → PyData
  | .non => .none
  | .bl b => .bool b
  | .int i => .int i
  | .str s => .str (toS s)
  | .tup l => .tuple (toDs l)
  | .lst l => .list (toDs l)
  | _ => .none
def toDs : List PV → List PyData
  | [] => []
  | x :: xs => toD x :: toDs xs
end
theorem toDs_map : ∀ l : List PV, toDs l = l.map toD
  | [] => rfl
  | x :: l => by rw [toDs, toDs_map l, List.map_cons]
theorem toKs_map : ∀ l : List PV, toKs l = l.map toK
  | [] => rfl
  | x :: l => by rw [toKs, toKs_map l, List.map_cons]
mutual
theorem plain_toD : ∀ d : PV, d.plain = true → (toD d).plain = true
  | .non, _ => rfl
  | .bl _, _ => rfl
  | .int _, _ => rfl
  | .str _, _ => rfl
  | .tup ds, h => by
    simp only [Ev.PV.plain] at h
    simp only [toD, PyData.plain]
    exact plain_toDs ds h
  | .lst ds, h => by
    simp only [Ev.PV.plain] at h
    simp only [toD, PyData.plain]
    exact plain_toDs ds h
  | .dct _, h => by simp [Ev.PV.plain] at h
  | .cel _, h => by simp [Ev.PV.plain] at h
  | .scr _, h => by simp [Ev.PV.plain] at h
theorem plain_toDs : ∀ ds : List PV, Ev.PV.plainL ds = true → PyData.plainAll (toDs ds) = true
  | [], _ => rfl
  | d :: ds, h => by
    simp only [Ev.PV.plainL, Bool.and_eq_true] at h
    simp only [toDs, PyData.plainAll, plain_toD d h.1, plain_toDs ds h.2, Bool.and_self]
end
mutual
theorem depth_toD : ∀ d : PV, d.plain = true → (toD d).depth = d.depth
  | .non, _ => rfl
  | .bl _, _ => rfl
  | .int _, _ => rfl
  | .str _, _ => rfl
  | .tup ds, h => by
    simp only [Ev.PV.plain] at h
    simp only [toD, PyData.depth, Ev.PV.depth, depth_toDs ds h]
  | .lst ds, h => by
    simp only [Ev.PV.plain] at h
    simp only [toD, PyData.depth, Ev.PV.depth, depth_toDs ds h]
  | .dct _, h => by simp [Ev.PV.plain] at h
  | .cel _, h => by simp [Ev.PV.plain] at h
  | .scr _, h => by simp [Ev.PV.plain] at h
theorem depth_toDs : ∀ ds : List PV, Ev.PV.plainL ds = true → PyData.depthAll (toDs ds) = Ev.PV.depthL ds
  | [], _ => rfl
  | d :: ds, h => by
    simp only [Ev.PV.plainL, Bool.and_eq_true] at h
    simp only [toDs, PyData.depthAll, Ev.PV.depthL, depth_toD d h.1, depth_toDs ds h.2]
end
theorem beq_toS (a b : List Nat) : (toS a == toS b) = (a == b) := by
  by_cases e : a = b
  · subst e
    simp
  · have : ¬ toS a = toS b := fun z => e (toS_inj.mp z)
    rw [beq_eq_false_iff_ne.mpr e, beq_eq_false_iff_ne.mpr this]
mutual
theorem eqv_toD : ∀ a b : PV, a.plain = true → b.plain = true → PyData.eqv (toD a) (toD b) = a.eqv b
  | .non, b, _, h => by cases b <;> first | rfl | simp [Ev.PV.plain] at h
  | .bl x, b, _, h => by cases b <;> first | rfl | (simp [Ev.PV.plain] at h) | (simp [toD, PyData.eqv, Ev.PV.eqv, Ev.PV.b2i])
  | .int x, b, _, h => by cases b <;> first | rfl | (simp [Ev.PV.plain] at h) | (simp [toD, PyData.eqv, Ev.PV.eqv, Ev.PV.b2i])
  | .str x, b, _, h => by
    cases b with
    | str y => simp only [toD, PyData.eqv, Ev.PV.eqv, beq_toS]
    | dct _ => simp [Ev.PV.plain] at h
    | cel _ => simp [Ev.PV.plain] at h
    | scr _ => simp [Ev.PV.plain] at h
    | _ => rfl
  | .tup xs, b, g, h => by
    cases b with
    | tup ys => simp only [toD, PyData.eqv, Ev.PV.eqv]; exact eqv_toDs xs ys (by simpa [Ev.PV.plain] using g) (by simpa [Ev.PV.plain] using h)
    | dct _ => simp [Ev.PV.plain] at h
    | cel _ => simp [Ev.PV.plain] at h
    | scr _ => simp [Ev.PV.plain] at h
    | _ => rfl
  | .lst xs, b, g, h => by
    cases b with
    | lst ys => simp only [toD, PyData.eqv, Ev.PV.eqv]; exact eqv_toDs xs ys (by simpa [Ev.PV.plain] using g) (by simpa [Ev.PV.plain] using h)
    | dct _ => simp [Ev.PV.plain] at h
    | cel _ => simp [Ev.PV.plain] at h
    | scr _ => simp [Ev.PV.plain] at h
    | _ => rfl
  | .dct _, _, g, _ => by simp [Ev.PV.plain] at g
  | .cel _, _, g, _ => by simp [Ev.PV.plain] at g
  | .scr _, _, g, _ => by simp [Ev.PV.plain] at g
theorem eqv_toDs : ∀ a b : List PV, Ev.PV.plainL a = true → Ev.PV.plainL b = true → PyData.eqvAll (toDs a) (toDs b) = Ev.PV.eqvL a b
  | [], [], _, _ => rfl
  | [], _ :: _, _, _ => rfl
  | _ :: _, [], _, _ => rfl
  | x :: xs, y :: ys, g, h => by
    simp only [Ev.PV.plainL, Bool.and_eq_true] at g h
    simp only [toDs, PyData.eqvAll, Ev.PV.eqvL, eqv_toD x y g.1 h.1, eqv_toDs xs ys g.2 h.2]
end
mutual
theorem alike_toD : ∀ a b : PV, a.alike b = true → PySem.W.alike (toD a) (toD b) = true
  | .non, b, h => by cases b <;> first | rfl | simp [Ev.PV.alike] at h
  | .bl x, b, h => by cases b <;> first | rfl | simp [Ev.PV.alike] at h
  | .int x, b, h => by cases b <;> first | rfl | simp [Ev.PV.alike] at h
  | .str x, b, h => by cases b <;> first | rfl | simp [Ev.PV.alike] at h
  | .tup xs, b, h => by
    cases b with
    | tup ys => simp only [toD, PySem.W.alike]; exact alike_toDs xs ys (by simpa [Ev.PV.alike] using h)
    | _ => simp [Ev.PV.alike] at h
  | .lst xs, b, h => by
    cases b with
    | lst ys => simp only [toD, PySem.W.alike]; exact alike_toDs xs ys (by simpa [Ev.PV.alike] using h)
    | _ => simp [Ev.PV.alike] at h
  | .dct _, b, h => by simp [Ev.PV.alike] at h
  | .cel _, b, h => by simp [Ev.PV.alike] at h
  | .scr _, b, h => by simp [Ev.PV.alike] at h
theorem alike_toDs : ∀ a b : List PV, Ev.PV.alikeL a b = true → PySem.W.alikeAll (toDs a) (toDs b) = true
  | [], [], _ => by simp [toDs, PySem.W.alikeAll]
  | [], _ :: _, _ => by simp [toDs, PySem.W.alikeAll]
  | _ :: _, [], _ => by simp [toDs, PySem.W.alikeAll]
  | x :: xs, y :: ys, h => by
    simp only [Ev.PV.alikeL, Bool.and_eq_true] at h
    simp only [toDs, PySem.W.alikeAll, alike_toD x y h.1, alike_toDs xs ys h.2, Bool.and_self]
end
theorem ltN_lt : ∀ a b : List Nat, Ev.PV.ltN a b = decide (a < b)
  | [], [] => by simp [Ev.PV.ltN]
  | [], _ :: _ => by simp [Ev.PV.ltN]
  | _ :: _, [] => by simp [Ev.PV.ltN]
  | x :: xs, y :: ys => by
    by_cases e : x = y
    · subst e
      simp [Ev.PV.ltN, ltN_lt xs ys]
    · have : x < y ∨ y < x := by omega
      simp [Ev.PV.ltN, e, List.cons_lt_cons_iff]

end EvB
end

section
set_option autoImplicit false
set_option Elab.async false
set_option linter.all false
set_option maxRecDepth 100000
set_option maxHeartbeats 1000000
namespace EvB
open PySem PySem.Spec PyProof.Rows L2
open Ev (PV Store Res)

section
variable {w : World} {K : PySem.W.Frag} {al : List Addr} {H H' : Hp} {P P' C : Addr → Prop}
/-- as Rz, but the value itself may be an object outside P -/
inductive Rt (w : World) (K : PySem.W.Frag) (al : List Addr) (H : Hp) (P : Addr → Prop) : V → PV → Prop
  | of {v : V} {d : PV} : Rz w K al H P v d → Rt w K al H P v d
  | lst {a : Addr} {xs : List V} {ds : List PV} : H a = some (.lst xs) → RzL w K al H P xs ds → Rt w K al H P (.ref a) (.lst ds)
  | dct {a : Addr} {ep : Nat} {es : List Ent} {ds : List (PV × PV)} : H a = some (DctO w a ep es) → RzD w K al H P es ds → Rt w K al H P (.ref a) (.dct ds)
theorem Rt.list {v : V} {ds : List PV} (h : Rt w K al H P v (.lst ds)) : ∃ a xs, v = .ref a ∧ H a = some (.lst xs) ∧ RzL w K al H P xs ds := by
  cases h with
  | of h => cases h with
    | lst h1 h2 h3 => exact ⟨_, _, rfl, h1, h3⟩
  | lst h1 h3 => exact ⟨_, _, rfl, h1, h3⟩
theorem Rt.dict {v : V} {ds : List (PV × PV)} (h : Rt w K al H P v (.dct ds)) : ∃ a ep es, v = .ref a ∧ H a = some (DctO w a ep es) ∧ RzD w K al H P es ds := by
  cases h with
  | of h => cases h with
    | dct h1 h2 h3 => exact ⟨_, _, _, rfl, h1, h3⟩
  | dct h1 h3 => exact ⟨_, _, _, rfl, h1, h3⟩
theorem Rt.rz {v : V} {d : PV} (h : Rt w K al H P v d) (m : d.isMut = false) : Rz w K al H P v d := by
  cases h with
  | of h => exact h
  | lst _ _ => cases m
  | dct _ _ => cases m
theorem Rt.ext {v : V} {d : PV} (h : Rt w K al H P v d) (e : Ext C H H') (c : ∀ a, P a → ¬ C a) (ct : ∀ a, v = .ref a → ¬ C a ∨ d.isMut = false) : Rt w K al H' P v d := by
  cases h with
  | of h => exact .of (h.ext e c)
  | lst h1 h3 =>
    rcases e _ _ h1 with z | z
    · exact .lst z (h3.ext e c)
    · rcases ct _ rfl with q | q
      · exact absurd z.1 q
      · cases q
  | dct h1 h3 =>
    rcases e _ _ h1 with z | z
    · exact .dct z (h3.ext e c)
    · rcases ct _ rfl with q | q
      · exact absurd z.1 q
      · cases q
theorem Rt.mono {v : V} {d : PV} (h : Rt w K al H P v d) (p : ∀ a o, H a = some o → P a → P' a) : Rt w K al H P' v d := by
  cases h with
  | of h => exact .of (h.mono p)
  | lst h1 h3 => exact .lst h1 (h3.mono p)
  | dct h1 h3 => exact .dct h1 (h3.mono p)
theorem Rt.same {v : V} {d : PV} (h : Rt w K al H P v d) (e : Same H H') : Rt w K al H' P v d :=
  h.ext (C := fun _ => False) (Ext.same e) (fun _ _ z => z) (fun _ _ => .inl fun z => z)
theorem Rz.same {v : V} {d : PV} (h : Rz w K al H P v d) (e : Same H H') : Rz w K al H' P v d := h.ext (C := fun _ => False) (Ext.same e) (fun _ _ z => z)
theorem RzL.same {v : List V} {d : List PV} (h : RzL w K al H P v d) (e : Same H H') : RzL w K al H' P v d := h.ext (C := fun _ => False) (Ext.same e) (fun _ _ z => z)
theorem RzD.same {v : List Ent} {d : List (PV × PV)} (h : RzD w K al H P v d) (e : Same H H') : RzD w K al H' P v d := h.ext (C := fun _ => False) (Ext.same e) (fun _ _ z => z)
theorem Rz.tupE {v : V} {ds : List PV} (h : Rz w K al H P v (.tup ds)) : ∃ a xs, v = .ref a ∧ SqT K H a xs ∧ RzL w K al H P xs ds := by
  cases h with
  | tup h1 h2 => exact ⟨_, _, rfl, h1, h2⟩
theorem Rt.tupE {v : V} {ds : List PV} (h : Rt w K al H P v (.tup ds)) : ∃ a xs, v = .ref a ∧ SqT K H a xs ∧ RzL w K al H P xs ds := (h.rz rfl).tupE
theorem Rt.intE {v : V} {i : Int} (h : Rt w K al H P v (.int i)) : v = .int i := by cases h.rz rfl; rfl
theorem Rt.blE {v : V} {i : Bool} (h : Rt w K al H P v (.bl i)) : v = .bl i := by cases h.rz rfl; rfl
theorem Rt.strE {v : V} {i : List Nat} (h : Rt w K al H P v (.str i)) : v = .str (toS i) := by cases h.rz rfl; rfl
theorem Rt.strL {v : V} {i : List Nat} (h : Rt w K al H P v (.str i)) : i.length ≤ sizeLine := by cases h.rz rfl with | str _ hs => exact hs
theorem Rt.nonE {v : V} (h : Rt w K al H P v .non) : v = .non := by cases h.rz rfl; rfl
end

/-- the wished end of a rule that gives the value r and changes nothing -/
def Yes (w : World) (K : PySem.W.Frag) (al : List Addr) (H : Hp) (P : Addr → Prop) (fr : Bool) (r : PV) (Q : VK) : Prop :=
  ∀ v H', Same H H' → Rz w K al H' P v r → (fr = true → ∀ a, v = .ref a → H a = none ∨ r.isMut = false) → Q v H'
section
variable {w : World} {K : PySem.W.Frag} {al : List Addr} {H : Hp} {P : Addr → Prop} {Q : VK} {fr : Bool}
theorem same_new {p : Addr} {o : HO} (h : H p = none) : Same H (upd H p o) := fun b x e => by rw [upd_ne (ne_of_none e h)]; exact e
theorem Yes.int {i : Int} (h : Yes w K al H P fr (.int i) Q) : Q (.int i) H := h _ _ (Same.refl H) (.int i) (fun _ _ e => by cases e)
theorem Yes.bl {i : Bool} (h : Yes w K al H P fr (.bl i) Q) : Q (.bl i) H := h _ _ (Same.refl H) (.bl i) (fun _ _ e => by cases e)
theorem Yes.str {i : List Nat} (h : Yes w K al H P fr (.str i) Q) (hs : i.length ≤ sizeLine) : Q (.str (toS i)) H := h _ _ (Same.refl H) (.str i hs) (fun _ _ e => by cases e)
theorem Yes.non (h : Yes w K al H P fr .non Q) : Q .non H := h _ _ (Same.refl H) .non (fun _ _ e => by cases e)
theorem Yes.old {v : V} {d : PV} (h : Yes w K al H P fr d Q) (r : Rz w K al H P v d) (m : d.isMut = false) : Q v H := h _ _ (Same.refl H) r (fun _ _ _ => .inr m)
theorem Yes.pass {v : V} {d : PV} (h : Yes w K al H P false d Q) (r : Rz w K al H P v d) : Q v H := h _ _ (Same.refl H) r (fun z => by cases z)
theorem Yes.newT {xs : List V} {ds : List PV} (h : Yes w K al H P fr (.tup ds) Q) (r : RzL w K al H P xs ds) {p : Addr} (np : H p = none) : Q (.ref p) (upd H p (.tup xs)) :=
  h _ _ (same_new np) (.tup (.inl (.inl upd_same)) (r.same (same_new np))) (fun _ _ _ => .inr rfl)
theorem Yes.newL {xs : List V} {ds : List PV} (h : Yes w K al H P fr (.lst ds) Q) (r : RzL w K al H P xs ds) {p : Addr} (np : H p = none) (pp : P p) : Q (.ref p) (upd H p (.lst xs)) :=
  h _ _ (same_new np) (.lst upd_same pp (r.same (same_new np))) (fun _ _ e => by cases e; exact .inl np)
end

/-! ### arithmetic -/
section
variable {X : Cx}
theorem dec_of {b : Bool} (h : (Res.need b : Res Unit) = .ok ()) : b = true := by
  cases b with
  | true => rfl
  | false => cases h
theorem need_bind {α : Type} {b : Bool} {f : Unit → Res α} {r : α} (h : (Res.need b >>= f) = .ok r) : b = true ∧ f () = .ok r := by
  cases b with
  | true => exact ⟨rfl, h⟩
  | false => cases h
theorem fits_le {α : Type} {l : List α} (h : Ev.fitsL l = true) : l.length ≤ sizeLine := by
  have := of_decide_eq_true h
  rw [sizeLine_eq]
  exact this
/-- a rule of two operands, by values -/
def rBin (w : World) (K : PySem.W.Frag) (al : List Addr) (P : Addr → Prop) (f : PV → PV → Res PV) : R2 := fun x y H Q =>
  ∃ a b r, Rt w K al H P x a ∧ Rt w K al H P y b ∧ f a b = .ok r ∧ (∀ p, H p = none → P p) ∧ Yes w K al H P true r Q
def pyB : Ev.Bop → Operator
  | .add => .Add | .sub => .Sub | .mul => .Mult | .fdiv => .FloorDiv | .mod => .Mod | .pow => .Pow | .band => .BitAnd | .shl => .LShift | .shr => .RShift
theorem b2i_ev (b : Bool) : Ev.PV.b2i b = (if b = true then (1 : Int) else 0) := rfl
theorem op_add_bi : OpR X (binaryOp .Add) (fun x y H Q => ∃ k i, x = .bl k ∧ y = .int i ∧ Q (.int (Ev.PV.b2i k + i)) H) := by
  intro pins s σ H x y v u Q I rx ry h
  obtain ⟨i, k, rfl, rfl, q⟩ := h
  obtain ⟨t, rfl⟩ := ry
  cases rx
  exact PySem.IntBool.add_bool_int ⟨.int _, H, I.tok _, ⟨_, rfl⟩, q⟩
theorem op_sub_bi : OpR X (binaryOp .Sub) (fun x y H Q => ∃ k i, x = .bl k ∧ y = .int i ∧ Q (.int (Ev.PV.b2i k - i)) H) := by
  intro pins s σ H x y v u Q I rx ry h
  obtain ⟨i, k, rfl, rfl, q⟩ := h
  obtain ⟨t, rfl⟩ := ry
  cases rx
  exact PySem.IntBool.sub_bool_int ⟨.int _, H, I.tok _, ⟨_, rfl⟩, q⟩
theorem toS_append (a b : List Nat) : toS a ++ toS b = toS (a ++ b) := by
  show (⟨a.toArray ++ b.toArray⟩ : Str) = ⟨(a ++ b).toArray⟩
  rw [List.append_toArray]
theorem toS_length (a : List Nat) : (toS a).length = a.length := by
  show a.toArray.size = a.length
  simp
theorem rzl_nil {w : World} {K : PySem.W.Frag} {al : List Addr} {H : Hp} {P : Addr → Prop} {xs : List V} (h : RzL w K al H P xs []) : xs = [] := by cases h; rfl
theorem rzl_rep {w : World} {K : PySem.W.Frag} {al : List Addr} {H : Hp} {P : Addr → Prop} {xs : List V} {ds : List PV} (h : RzL w K al H P xs ds) : ∀ n : Nat, RzL w K al H P (List.replicate n xs).flatten (List.replicate n ds).flatten
  | 0 => .nil
  | n + 1 => by
    rw [List.replicate_succ, List.replicate_succ, List.flatten_cons, List.flatten_cons]
    exact h.append (rzl_rep h n)
theorem bin_add {al : List Addr} {P : Addr → Prop} : OpR X (binaryOp .Add) (rBin X.w X.K al P (Ev.binop .add)) := by
  intro pins s σ H x y v u Q I rx ry h
  obtain ⟨a, b, r, ha, hb, e, fr, q⟩ := h
  match a, b, e with
  | .int i, .int j, e =>
    cases e
    rw [ha.intE] at rx
    rw [hb.intE] at ry
    exact op_add pins s σ H _ _ v u Q I rx ry ⟨i, j, rfl, rfl, q.int⟩
  | .bl i, .int j, e =>
    cases e
    rw [ha.blE] at rx
    rw [hb.intE] at ry
    exact op_add_bi pins s σ H _ _ v u Q I rx ry ⟨i, j, rfl, rfl, q.int⟩
  | .int i, .bl j, e =>
    cases e
    rw [ha.intE] at rx
    rw [hb.blE] at ry
    exact op_add_ib pins s σ H _ _ v u Q I rx ry ⟨i, j, rfl, rfl, q.int⟩
  | .str i, .str j, e =>
    obtain ⟨f, e⟩ := need_bind e
    cases e
    rw [ha.strE] at rx
    rw [hb.strE] at ry
    have f2 := fits_le f
    rw [List.length_append] at f2
    exact op_add_str pins s σ H _ _ v u Q I rx ry ⟨_, _, rfl, rfl, by rw [toS_length, toS_length]; exact f2, by rw [toS_append]; exact q.str (fits_le f)⟩
  | .tup i, .tup j, e =>
    obtain ⟨f, e⟩ := need_bind e
    cases e
    obtain ⟨aa, xs, rfl, h1, h2⟩ := ha.tupE
    obtain ⟨bb, ys, rfl, h3, h4⟩ := hb.tupE
    have f2 := fits_le f
    rw [List.length_append, ← h2.length, ← h4.length] at f2
    refine op_catA pins s σ H _ _ v u Q I rx ry ⟨aa, bb, xs, ys, rfl, rfl, h1, h3, f2, fun z => ?_, fun z1 z => ?_, fun z1 z2 p np => ?_⟩
    · subst z
      have : i = [] := by cases h2; rfl
      subst this
      exact q.old (.tup h3 h4) rfl
    · subst z
      have : j = [] := by cases h4; rfl
      subst this
      rw [List.append_nil] at q
      exact q.old (.tup h1 h2) rfl
    · exact q.newT (h2.append h4) np
  | .lst i, .lst j, e =>
    obtain ⟨f, e⟩ := need_bind e
    cases e
    obtain ⟨aa, xs, rfl, h1, h2⟩ := ha.list
    obtain ⟨bb, ys, rfl, h3, h4⟩ := hb.list
    have f2 := fits_le f
    rw [List.length_append, ← h2.length, ← h4.length] at f2
    exact op_cat pins s σ H _ _ v u Q I rx ry ⟨aa, bb, xs, ys, rfl, rfl, h1, h3, f2, fun p np => q.newL (h2.append h4) np (fr p np)⟩
theorem bin_sub {al : List Addr} {P : Addr → Prop} : OpR X (binaryOp .Sub) (rBin X.w X.K al P (Ev.binop .sub)) := by
  intro pins s σ H x y v u Q I rx ry h
  obtain ⟨a, b, r, ha, hb, e, fr, q⟩ := h
  match a, b, e with
  | .int i, .int j, e =>
    cases e
    rw [ha.intE] at rx
    rw [hb.intE] at ry
    exact op_sub pins s σ H _ _ v u Q I rx ry ⟨i, j, rfl, rfl, q.int⟩
  | .bl i, .int j, e =>
    cases e
    rw [ha.blE] at rx
    rw [hb.intE] at ry
    exact op_sub_bi pins s σ H _ _ v u Q I rx ry ⟨i, j, rfl, rfl, q.int⟩
theorem bin_mod {al : List Addr} {P : Addr → Prop} : OpR X (binaryOp .Mod) (rBin X.w X.K al P (Ev.binop .mod)) := by
  intro pins s σ H x y v u Q I rx ry h
  obtain ⟨a, b, r, ha, hb, e, fr, q⟩ := h
  match a, b, e with
  | .int i, .int j, e =>
    obtain ⟨f, e⟩ := need_bind e
    cases e
    rw [ha.intE] at rx
    rw [hb.intE] at ry
    exact op_mod pins s σ H _ _ v u Q I rx ry ⟨i, j, rfl, rfl, of_decide_eq_true f, q.int⟩
theorem bin_fdiv {al : List Addr} {P : Addr → Prop} : OpR X (binaryOp .FloorDiv) (rBin X.w X.K al P (Ev.binop .fdiv)) := by
  intro pins s σ H x y v u Q I rx ry h
  obtain ⟨a, b, r, ha, hb, e, fr, q⟩ := h
  match a, b, e with
  | .int i, .int j, e =>
    obtain ⟨f, e⟩ := need_bind e
    cases e
    rw [ha.intE] at rx
    rw [hb.intE] at ry
    have f1 : 0 < j ∧ j < 1073741824 := of_decide_eq_true f
    exact op_fdiv pins s σ H _ _ v u Q I rx ry ⟨i, j, rfl, rfl, f1, q.int⟩
theorem bin_pow {al : List Addr} {P : Addr → Prop} : OpR X (binaryOp .Pow) (rBin X.w X.K al P (Ev.binop .pow)) := by
  intro pins s σ H x y v u Q I rx ry h
  obtain ⟨a, b, r, ha, hb, e, fr, q⟩ := h
  match a, b, e with
  | .int i, .int j, e =>
    obtain ⟨f, e⟩ := need_bind e
    cases e
    rw [ha.intE] at rx
    rw [hb.intE] at ry
    obtain ⟨f1, f2, f3⟩ := of_decide_eq_true f
    exact op_pow pins s σ H _ _ v u Q I rx ry ⟨i, j, rfl, rfl, ⟨f1, by omega, f3⟩, q.int⟩
theorem bin_shl {al : List Addr} {P : Addr → Prop} : OpR X (binaryOp .LShift) (rBin X.w X.K al P (Ev.binop .shl)) := by
  intro pins s σ H x y v u Q I rx ry h
  obtain ⟨a, b, r, ha, hb, e, fr, q⟩ := h
  match a, b, e with
  | .int i, .int j, e =>
    obtain ⟨f, e⟩ := need_bind e
    cases e
    rw [ha.intE] at rx
    rw [hb.intE] at ry
    obtain ⟨f1, f2, f3⟩ := of_decide_eq_true f
    exact op_shl pins s σ H _ _ v u Q I rx ry ⟨i, j, rfl, rfl, ⟨f1, by omega, f3⟩, q.int⟩
theorem bin_shr {al : List Addr} {P : Addr → Prop} : OpR X (binaryOp .RShift) (rBin X.w X.K al P (Ev.binop .shr)) := by
  intro pins s σ H x y v u Q I rx ry h
  obtain ⟨a, b, r, ha, hb, e, fr, q⟩ := h
  match a, b, e with
  | .int i, .int j, e =>
    obtain ⟨f, e⟩ := need_bind e
    cases e
    rw [ha.intE] at rx
    rw [hb.intE] at ry
    exact op_shr pins s σ H _ _ v u Q I rx ry ⟨i, j, rfl, rfl, of_decide_eq_true f, q.int⟩
theorem bin_band {al : List Addr} {P : Addr → Prop} : OpR X (binaryOp .BitAnd) (rBin X.w X.K al P (Ev.binop .band)) := by
  intro pins s σ H x y v u Q I rx ry h
  obtain ⟨a, b, r, ha, hb, e, fr, q⟩ := h
  match a, b, e with
  | .int _, .int _, e => cases e
theorem flatten_rep_length {α : Type} (l : List α) (n : Nat) : (List.replicate n l).flatten.length = l.length * n := by
  induction n with
  | zero => simp
  | succ n ih => rw [List.replicate_succ, List.flatten_cons, List.length_append, ih, Nat.mul_succ]; omega
end
theorem tup_mul_self (l : Addr) (items : Array Value) (n : Nat) (dd : Option Addr) (sl : Array (Option Value)) (x : Int) (u : Tok) (c0 : (decide (x < -(2 ^ 63)) || decide (x ≥ 2 ^ 63)) = false) (c1 : (items.isEmpty || x == 1) = true) :
    Meets (Builtin.«tuple.__mul__» ⟨[.ref l, .int x u], []⟩) (fun _ R s => s.heap.get? l = some { cls := .type "tuple", dict := dd, data := .seq items n, slots := sl } ∧ R (.ok (.ret (Value.ref l))) s) :=
  .of_wp fun prog w A R s h => by
    obtain ⟨hp, g, d, tk, os⟩ := s
    obtain ⟨hl, h⟩ := h
    have f1 := AutoSeq1.idx_int
    wp_walk using wpAny_loadPart' hl
    repeat (first
      | (refine wpAny_ite_false (decide_eq_false (by rw [c0]; exact Bool.false_ne_true)) ?_; wp_walk using wpAny_loadPart' hl)
      | (refine wpAny_ite_true (decide_eq_true (by rw [c1])) ?_; wp_walk using wpAny_loadPart' hl))
    exact ⟨_, rfl, h⟩
theorem tup_mul_nil (l : Addr) (items : Array Value) (n : Nat) (dd : Option Addr) (sl : Array (Option Value)) (x : Int) (u : Tok) (c0 : (decide (x < -(2 ^ 63)) || decide (x ≥ 2 ^ 63)) = false) (c1 : (items.isEmpty || x == 1) = false) (c2 : (decide (x ≤ 0) || items.isEmpty) = true) :
    Meets (Builtin.«tuple.__mul__» ⟨[.ref l, .int x u], []⟩) (fun _ R s => s.heap.get? l = some { cls := .type "tuple", dict := dd, data := .seq items n, slots := sl } ∧
      R (.ok (.ret (Value.ref s.heap.objs.size))) { s with heap := s.heap.push { cls := Value.type "tuple", data := Data.seq #[] }, toks := s.toks }) :=
  .of_wp fun prog w A R s h => by
    obtain ⟨hp, g, d, tk, os⟩ := s
    obtain ⟨hl, h⟩ := h
    have f1 := AutoSeq1.idx_int
    wp_walk using wpAny_loadPart' hl
    repeat (first
      | (refine wpAny_ite_false (decide_eq_false (by rw [c0]; exact Bool.false_ne_true)) ?_; wp_walk using wpAny_loadPart' hl)
      | (refine wpAny_ite_false (decide_eq_false (by rw [c1]; exact Bool.false_ne_true)) ?_; wp_walk using wpAny_loadPart' hl)
      | (refine wpAny_ite_true (decide_eq_true (by rw [c2])) ?_; wp_walk using wpAny_loadPart' hl))
    exact ⟨_, rfl, h⟩

section
variable {X : Cx}
theorem bin_mul {al : List Addr} {P : Addr → Prop} : OpR X (binaryOp .Mult) (rBin X.w X.K al P (Ev.binop .mul)) := by
  intro pins s σ H x y v u Q I rx ry h
  obtain ⟨a, b, r, ha, hb, e, fr, q⟩ := h
  match a, b, e with
  | .int i, .int j, e =>
    obtain ⟨f, e⟩ := need_bind e
    cases e
    rw [ha.intE] at rx
    rw [hb.intE] at ry
    refine op_mul pins s σ H _ _ v u Q I rx ry ⟨i, j, rfl, rfl, ?_, q.int⟩
    rcases Bool.or_eq_true_iff.mp f with f | f
    · exact .inl (of_decide_eq_true f)
    · exact .inr (of_decide_eq_true f)
  | .lst i, .int j, e =>
    obtain ⟨f, e⟩ := need_bind e
    cases e
    obtain ⟨aa, xs, rfl, h1, h2⟩ := ha.list
    rw [hb.intE] at ry
    obtain ⟨f1, f2⟩ := Bool.and_eq_true_iff.mp f
    have f3 : -(2 ^ 62) < j ∧ j < 2 ^ 62 := of_decide_eq_true f2
    have f4 := fits_le f1
    unfold Ev.repL at f4 q
    rw [flatten_rep_length, ← h2.length] at f4
    exact op_rep pins s σ H _ _ v u Q I rx ry ⟨aa, j, xs, rfl, rfl, h1, by omega, by omega, f4, fun p np => q.newL (rzl_rep h2 _) np (fr p np)⟩
  | .tup i, .int j, e =>
    obtain ⟨f, e⟩ := need_bind e
    cases e
    obtain ⟨l, xs, rfl, h1, h2⟩ := ha.tupE
    rw [hb.intE] at ry
    obtain ⟨f1, f2⟩ := Bool.and_eq_true_iff.mp f
    have f3 : -(2 ^ 62) < j ∧ j < 2 ^ 62 := of_decide_eq_true f2
    have f4 := fits_le f1
    unfold Ev.repL at f4 q
    rw [flatten_rep_length, ← h2.length] at f4
    cases rx
    obtain ⟨t, rfl⟩ := ry
    obtain ⟨its, rv, ⟨⟨cls, dd, data, sl⟩, ho, hc, n, hd⟩, hs⟩ := I.tuple h1
    simp only at hc hd
    subst hc hd
    have hle : its.toArray.size = xs.length := by simp [rv.length]
    have c0 : (decide (j < -(2 ^ 63)) || decide (j ≥ 2 ^ 63)) = false := by
      rw [decide_eq_false (by omega), decide_eq_false (by omega)] <;> rfl
    refine wpAny_binaryOp_repeat_ref (T := "tuple") (U := "int") (by decide) ⟨_, ho, rfl⟩ (fun s' => typeIs_int s' j t) noFill_tuple_mul F.fills_int_mul F.slot_int_rmul repeat_tuple F.slot_int_index.lookup
      (call_meets F.slot_int_rmul (typeIs_int s j t) F.entry_int_rmul (F.args_int_rmul_2 _ _) (int_rmul_tuple j t l its.toArray n dd sl) ⟨ho, rfl, ⟨_, ho, rfl⟩, ?_⟩)
    have ems : its.toArray.isEmpty = xs.isEmpty := by
      have := rv.length
      cases its with
      | nil => cases xs with
        | nil => rfl
        | cons _ _ => simp at this
      | cons _ _ => cases xs with
        | nil => simp at this
        | cons _ _ => rfl
    by_cases k1 : (its.toArray.isEmpty || j == 1) = true
    · refine call_meets F.slot_tuple_mul ⟨_, ho, rfl⟩ F.entry_tuple_mul (F.args_tuple_mul_2 _ _) (tup_mul_self l its.toArray n dd sl j t c0 k1) ⟨ho, ?_⟩
      have e2 : (List.replicate j.toNat i).flatten = i := by
        rcases Bool.or_eq_true_iff.mp k1 with z | z
        · rw [ems] at z
          have : i = [] := by
            cases h2 with
            | nil => rfl
            | cons _ _ => cases z
          subst this
          rw [List.flatten_replicate_nil]
        · have : j = 1 := by simpa using z
          subst this
          simp
      rw [e2] at q
      exact ⟨.ref l, H, I, rfl, q.old (.tup h1 h2) rfl⟩
    · have k1' : (its.toArray.isEmpty || j == 1) = false := by simpa using k1
      by_cases k2 : (decide (j ≤ 0) || its.toArray.isEmpty) = true
      · refine call_meets F.slot_tuple_mul ⟨_, ho, rfl⟩ F.entry_tuple_mul (F.args_tuple_mul_2 _ _) (tup_mul_nil l its.toArray n dd sl j t c0 k1' k2) ⟨ho, ?_⟩
        have hj : j ≤ 0 := by
          rcases Bool.or_eq_true_iff.mp k2 with z | z
          · exact of_decide_eq_true z
          · rw [z] at k1'; cases k1'
        have e2 : (List.replicate j.toNat i).flatten = [] := by
          rw [show j.toNat = 0 by omega]
          rfl
        rw [e2] at q
        have hf : H s.heap.objs.size = none := I.hok.fresh (Nat.le_refl _)
        refine ⟨.ref s.heap.objs.size, upd H s.heap.objs.size (.tup []), I.laid (t' := s.toks) (fun b u e => Heap.get?_push_of_some _ e) (Nat.le_refl _) ?_, rfl, q.newT .nil hf⟩
        exact ⟨Nat.zero_le _, [], .nil, ⟨_, Heap.get?_push_size _ rfl, rfl, _, rfl⟩⟩
      · have k2' : (decide (j ≤ 0) || its.toArray.isEmpty) = false := by simpa using k2
        have hj : 0 < j := by
          have := (Bool.or_eq_false_iff.mp k2').1
          have := of_decide_eq_false this
          omega
        have hm : ((its.toArray.size : Nat) : Int) * j ≤ 16777216 := by
          rw [hle]
          have a1 : ((xs.length * j.toNat : Nat) : Int) ≤ ((sizeLine : Nat) : Int) := Int.ofNat_le.mpr f4
          rw [sizeLine_eq] at a1
          rw [Int.natCast_mul, Int.toNat_of_nonneg (by omega)] at a1
          exact a1
        have c4 : Builtin.Tuple.tupleTooMany (((its.toArray.size : Nat) : Int) * j) = false := by
          unfold Builtin.Tuple.tupleTooMany
          rw [sizeLine_eq]
          exact decide_eq_false (by omega)
        refine call_meets F.slot_tuple_mul ⟨_, ho, rfl⟩ F.entry_tuple_mul (F.args_tuple_mul_2 _ _) (tuple_mulW l its.toArray n dd sl j t c0 k1' k2' (by omega) c4 (by rw [size_rep, List.size_toArray, flatten_rep_length]; have := rv.length; rw [← this]; exact f4)) ⟨ho, ?_⟩
        rw [size_rep]
        have hf : H s.heap.objs.size = none := I.hok.fresh (Nat.le_refl _)
        refine ⟨.ref s.heap.objs.size, upd H s.heap.objs.size (.tup (List.replicate j.toNat xs).flatten), I.laid (t' := s.toks) (fun b u e => Heap.get?_push_of_some _ e) (Nat.le_refl _) ?_, rfl, q.newT (rzl_rep h2 _) hf⟩
        refine ⟨by rw [flatten_rep_length]; exact f4, _, ?_, ⟨_, Heap.get?_push_size _ rfl, rfl, _, rfl⟩⟩
        have vrep : ∀ m : Nat, Vals (List.replicate m xs).flatten (List.replicate m its).flatten := by
          intro m
          induction m with
          | zero => exact .nil
          | succ m ih =>
            rw [List.replicate_succ, List.replicate_succ, List.flatten_cons, List.flatten_cons]
            exact rv.append ih
        exact vrep _
theorem op_binop {al : List Addr} {P : Addr → Prop} (op : Ev.Bop) : OpR X (binaryOp (pyB op)) (rBin X.w X.K al P (Ev.binop op)) := by
  cases op
  · exact bin_add
  · exact bin_sub
  · exact bin_mul
  · exact bin_fdiv
  · exact bin_mod
  · exact bin_pow
  · exact bin_band
  · exact bin_shl
  · exact bin_shr
end
end EvB
end

section
set_option autoImplicit false
set_option Elab.async false
set_option linter.all false
set_option maxRecDepth 100000
set_option maxHeartbeats 1000000
namespace EvB
open PySem PySem.Spec PyProof.Rows L2
open Ev (PV Store Res)

section
variable {w : World} {K : PySem.W.Frag} {al : List Addr} {H H' : Hp} {P P' C : Addr → Prop}
mutual
theorem rz_dp : ∀ {v : V} (d : PV), d.plain = true → Rz w K al H P v d → Dp K H v (toD d)
  | _, .non, _, h => by cases h; exact .non
  | _, .bl b, _, h => by cases h; exact .bl b
  | _, .int i, _, h => by cases h; exact .int i
  | _, .str s, _, h => by cases h; exact .str _
  | _, .tup ds, p, h => by
    cases h with
    | tup h1 h2 => simp only [toD]; exact .tup h1 (rzl_dp ds (by simpa [Ev.PV.plain] using p) h2)
  | _, .lst ds, p, h => by
    cases h with
    | lst h1 _ h2 => simp only [toD]; exact .lst (.inl (.inl h1)) (rzl_dp ds (by simpa [Ev.PV.plain] using p) h2)
  | _, .dct _, p, _ => by simp [Ev.PV.plain] at p
  | _, .cel _, p, _ => by simp [Ev.PV.plain] at p
  | _, .scr _, p, _ => by simp [Ev.PV.plain] at p
theorem rzl_dp : ∀ {v : List V} (d : List PV), Ev.PV.plainL d = true → RzL w K al H P v d → DpAll K H v (toDs d)
  | _, [], _, h => by cases h; exact .nil
  | _, d :: ds, p, h => by
    simp only [Ev.PV.plainL, Bool.and_eq_true] at p
    cases h with
    | cons h1 h2 => exact .cons (rz_dp d p.1 h1) (rzl_dp ds p.2 h2)
end
theorem rt_dp {v : V} {d : PV} (p : d.plain = true) (h : Rt w K al H P v d) : Dp K H v (toD d) := by
  cases h with
  | of h => exact rz_dp d p h
  | lst h1 h2 => simp only [toD]; exact .lst (.inl (.inl h1)) (rzl_dp _ (by simpa [Ev.PV.plain] using p) h2)
  | dct _ _ => simp [Ev.PV.plain] at p
end
theorem okD_and {d : PV} (h : d.okD = true) : d.plain = true ∧ d.depth ≤ 60 := by
  obtain ⟨a, b⟩ := Bool.and_eq_true_iff.mp h
  exact ⟨a, of_decide_eq_true b⟩
/-- the library's order of data is ours -/
theorem dataLt_toD : ∀ a b : PV, a.alike b = true → a.plain = true → b.plain = true → PySem.W.dataLt (toD a) (toD b) = a.ltb b := by
  have key : ∀ n : Nat, (∀ a b : PV, sizeOf a ≤ n → a.alike b = true → a.plain = true → b.plain = true → PySem.W.dataLt (toD a) (toD b) = a.ltb b) ∧
      (∀ a b : List PV, sizeOf a ≤ n → Ev.PV.alikeL a b = true → Ev.PV.plainL a = true → Ev.PV.plainL b = true → PyProof.Rows.lexLt PyProof.Rows.itemOrd (PySem.W.keyToksAll (toDs a)) (PySem.W.keyToksAll (toDs b)) = Ev.PV.ltbL a b) := by
    intro n
    induction n with
    | zero =>
      refine ⟨fun a b h => ?_, fun a b h => ?_⟩
      · cases a <;> simp at h
      · cases a <;> simp at h
    | succ n ih =>
      refine ⟨fun a b hn h p q => ?_, fun a b hn h p q => ?_⟩
      · cases a with
        | non =>
          cases b with
          | non => rfl
          | _ => simp [Ev.PV.alike] at h
        | bl x =>
          cases b with
          | bl y => simp only [toD, Ev.PV.ltb, PySem.W.dataLt_bool]; cases x <;> cases y <;> decide
          | _ => simp [Ev.PV.alike] at h
        | int x =>
          cases b with
          | int y => simp only [toD, Ev.PV.ltb, PySem.W.dataLt_int]
          | _ => simp [Ev.PV.alike] at h
        | str x =>
          cases b with
          | str y => simp only [toD, Ev.PV.ltb, PySem.W.dataLt_str, ltN_lt]
          | _ => simp [Ev.PV.alike] at h
        | tup xs =>
          cases b with
          | tup ys =>
            simp only [toD, Ev.PV.ltb, PySem.W.dataLt_tuple]
            exact ih.2 xs ys (by simp at hn; omega) (by simpa [Ev.PV.alike] using h) (by simpa [Ev.PV.plain] using p) (by simpa [Ev.PV.plain] using q)
          | _ => simp [Ev.PV.alike] at h
        | lst xs =>
          cases b with
          | lst ys =>
            simp only [toD, Ev.PV.ltb, PySem.W.dataLt_list]
            exact ih.2 xs ys (by simp at hn; omega) (by simpa [Ev.PV.alike] using h) (by simpa [Ev.PV.plain] using p) (by simpa [Ev.PV.plain] using q)
          | _ => simp [Ev.PV.alike] at h
        | dct _ => simp [Ev.PV.alike] at h
        | cel _ => simp [Ev.PV.alike] at h
        | scr _ => simp [Ev.PV.alike] at h
      · cases a with
        | nil =>
          cases b with
          | nil => simp only [toDs, Ev.PV.ltbL]; decide +kernel
          | cons y ys =>
            simp only [toDs, Ev.PV.ltbL, PySem.W.toks_all_cons]
            have : PySem.W.keyToksAll [] = [Sum.inl 0] := by simp [PySem.W.keyToksAll]
            rw [this]
            rw [PySem.W.lex_atom (by simp), PySem.W.lex_one]
            decide +kernel
        | cons x xs =>
          cases b with
          | nil =>
            simp only [toDs, Ev.PV.ltbL, PySem.W.toks_all_cons]
            have : PySem.W.keyToksAll [] = [Sum.inl 0] := by simp [PySem.W.keyToksAll]
            rw [this]
            rw [PySem.W.lex_atom (by simp), PySem.W.lex_one]
            decide +kernel
          | cons y ys =>
            simp only [Ev.PV.alikeL, Ev.PV.plainL, Bool.and_eq_true] at h p q
            have ha := alike_toD x y h.1
            simp only [toDs, Ev.PV.ltbL]
            by_cases e : x.eqv y = true
            · rw [if_pos e, PySem.W.dataLt_all_yes ha (by rw [eqv_toD x y p.1 q.1]; exact e)]
              exact ih.2 xs ys (by simp at hn; omega) h.2 p.2 q.2
            · rw [if_neg e, PySem.W.dataLt_all_no ha (by rw [eqv_toD x y p.1 q.1]; simpa using e)]
              exact ih.1 x y (by simp at hn; omega) h.1 p.1 q.1
  exact fun a b => (key (sizeOf a)).1 a b (Nat.le_refl _)

/-! ### comparisons -/
/-- a rule of two operands that gives a truth value -/
def rCmp (w : World) (K : PySem.W.Frag) (al : List Addr) (P : Addr → Prop) (f : PV → PV → Res Bool) : R2 := fun x y H Q =>
  ∃ a b r, Rt w K al H P x a ∧ Rt w K al H P y b ∧ f a b = .ok r ∧ Q (.bl r) H
section
variable {X : Cx} {al : List Addr} {P : Addr → Prop}
theorem eqE_ok {a b : PV} {r : Bool} (h : Ev.eqE a b = .ok r) (hd : ∀ x y, ¬ (a = .dct x ∧ b = .dct y)) : a.okD = true ∧ b.okD = true ∧ r = a.eqv b := by
  have e : Ev.eqE a b = (do Res.need (a.okD && b.okD); .ok (a.eqv b)) := by
    cases a <;> cases b <;> first | rfl | exact absurd ⟨rfl, rfl⟩ (hd _ _)
  rw [e] at h
  obtain ⟨f, h⟩ := need_bind h
  obtain ⟨f1, f2⟩ := Bool.and_eq_true_iff.mp f
  exact ⟨f1, f2, by cases h; rfl⟩
theorem cmp_eq (hu : X.A.units + 64 < cLine) : OpR X (compareOp .Eq) (fun x y H Q => ∃ a b r, Rt X.w X.K al H P x a ∧ Rt X.w X.K al H P y b ∧ (∀ u v, ¬ (a = .dct u ∧ b = .dct v)) ∧ Ev.eqE a b = .ok r ∧ Q (.bl r) H) := by
  intro pins s σ H x y v u Q I rx ry h
  obtain ⟨a, b, r, ha, hb, nd, e, q⟩ := h
  obtain ⟨oa, ob, rfl⟩ := eqE_ok e nd
  obtain ⟨pa, da⟩ := okD_and oa
  obtain ⟨pb, db⟩ := okD_and ob
  obtain ⟨as, r1⟩ := Dp.reads I _ x v (rt_dp pa ha) rx
  obtain ⟨bs, r2⟩ := Dp.reads I _ y u (rt_dp pb hb) ry
  refine SeqAt.eq_plain r1 r2 (plain_toD a pa) (plain_toD b pb) ?_ ⟨.bl _, H, I, rfl, by rw [eqv_toD a b pa pb]; exact q⟩
  rw [depth_toD a pa, depth_toD b pb]
  omega
theorem cmp_ne (hu : X.A.units + 64 < cLine) : OpR X (compareOp .NotEq) (fun x y H Q => ∃ a b r, Rt X.w X.K al H P x a ∧ Rt X.w X.K al H P y b ∧ (∀ u v, ¬ (a = .dct u ∧ b = .dct v)) ∧ Ev.eqE a b = .ok r ∧ Q (.bl !r) H) := by
  intro pins s σ H x y v u Q I rx ry h
  obtain ⟨a, b, r, ha, hb, nd, e, q⟩ := h
  obtain ⟨oa, ob, rfl⟩ := eqE_ok e nd
  obtain ⟨pa, da⟩ := okD_and oa
  obtain ⟨pb, db⟩ := okD_and ob
  obtain ⟨as, r1⟩ := Dp.reads I _ x v (rt_dp pa ha) rx
  obtain ⟨bs, r2⟩ := Dp.reads I _ y u (rt_dp pb hb) ry
  refine SeqAt.ne_plain r1 r2 (plain_toD a pa) (plain_toD b pb) ?_ ⟨.bl _, H, I, rfl, by rw [eqv_toD a b pa pb]; exact q⟩
  rw [depth_toD a pa, depth_toD b pb]
  omega
theorem ltE_ok {a b : PV} {r : Bool} (h : Ev.ltE a b = .ok r) : a.okD = true ∧ b.okD = true ∧ a.alike b = true ∧ a.isNon = false ∧ r = a.ltb b := by
  obtain ⟨f, h⟩ := need_bind h
  simp only [Bool.and_eq_true, Bool.not_eq_true'] at f
  exact ⟨f.1.1.1, f.1.1.2, f.1.2, f.2, by cases h; rfl⟩
theorem ne_none_of_isNon {a : PV} (h : a.isNon = false) (p : a.plain = true) : toD a ≠ .none := by
  cases a <;> simp [toD, Ev.PV.isNon, Ev.PV.plain] at h p ⊢
theorem non_of_alike {a b : PV} (h : a.alike b = true) : a.isNon = b.isNon := by
  cases a <;> cases b <;> first | rfl | simp [Ev.PV.alike] at h
mutual
theorem alike_comm : ∀ a b : PV, a.alike b = b.alike a
  | .non, b => by cases b <;> rfl
  | .bl _, b => by cases b <;> rfl
  | .int _, b => by cases b <;> rfl
  | .str _, b => by cases b <;> rfl
  | .tup xs, b => by
    cases b with
    | tup ys => simp only [Ev.PV.alike]; exact alikeL_comm xs ys
    | _ => simp [Ev.PV.alike]
  | .lst xs, b => by
    cases b with
    | lst ys => simp only [Ev.PV.alike]; exact alikeL_comm xs ys
    | _ => simp [Ev.PV.alike]
  | .dct _, b => by cases b <;> rfl
  | .cel _, b => by cases b <;> rfl
  | .scr _, b => by cases b <;> rfl
theorem alikeL_comm : ∀ a b : List PV, Ev.PV.alikeL a b = Ev.PV.alikeL b a
  | [], [] => rfl
  | [], _ :: _ => rfl
  | _ :: _, [] => rfl
  | x :: xs, y :: ys => by simp only [Ev.PV.alikeL, alike_comm x y, alikeL_comm xs ys]
end
/-- what is known of two that are compared -/
theorem two_reads {pins : List (Addr × Obj)} {σ : L2.St} {H : Hp} {s : Shared} {x y : V} {v u : Value} {a b : PV} (I : Inv X pins σ H s) (rx : RelV x v) (ry : RelV y u) (ha : Rt X.w X.K al H P x a) (hb : Rt X.w X.K al H P y b) (oa : a.okD = true) (ob : b.okD = true) :
    (∃ as, Reads s.heap v (toD a) as) ∧ (∃ bs, Reads s.heap u (toD b) bs) ∧ (toD a).depth ≤ 60 ∧ (toD b).depth ≤ 60 := by
  obtain ⟨pa, da⟩ := okD_and oa
  obtain ⟨pb, db⟩ := okD_and ob
  exact ⟨Dp.reads I _ x v (rt_dp pa ha) rx, Dp.reads I _ y u (rt_dp pb hb) ry, by rw [depth_toD a pa]; exact da, by rw [depth_toD b pb]; exact db⟩
theorem cmp_lt (hu : X.A.units + 64 < cLine) : OpR X (compareOp .Lt) (rCmp X.w X.K al P (Ev.cmpop .lt)) := by
  intro pins s σ H x y v u Q I rx ry h
  obtain ⟨a, b, r, ha, hb, e, q⟩ := h
  obtain ⟨oa, ob, al', na, rfl⟩ := ltE_ok e
  obtain ⟨⟨as, r1⟩, ⟨bs, r2⟩, d1, d2⟩ := two_reads I rx ry ha hb oa ob
  refine PySem.W.lt_data r1 r2 (alike_toD a b al') (ne_none_of_isNon na (okD_and oa).1) (by omega) ⟨.bl _, H, I, rfl, ?_⟩
  rw [dataLt_toD a b al' (okD_and oa).1 (okD_and ob).1]
  exact q
theorem cmp_gt (hu : X.A.units + 64 < cLine) : OpR X (compareOp .Gt) (rCmp X.w X.K al P (Ev.cmpop .gt)) := by
  intro pins s σ H x y v u Q I rx ry h
  obtain ⟨a, b, r, ha, hb, e, q⟩ := h
  obtain ⟨ob, oa, al', nb, rfl⟩ := ltE_ok e
  obtain ⟨⟨as, r1⟩, ⟨bs, r2⟩, d1, d2⟩ := two_reads I rx ry ha hb oa ob
  refine PySem.W.gt_data r1 r2 (alike_toD a b (by rw [alike_comm]; exact al')) (ne_none_of_isNon (by rw [← non_of_alike al']; exact nb) (okD_and oa).1) (by omega) ⟨.bl _, H, I, rfl, ?_⟩
  rw [dataLt_toD b a al' (okD_and ob).1 (okD_and oa).1]
  exact q
theorem res_not {x : Res Bool} {r : Bool} (h : (x >>= fun r => Res.ok !r) = .ok r) : x = .ok !r := by
  obtain ⟨a, e, h⟩ := Res.bind_eq_ok h
  cases h
  rw [e, Bool.not_not]
theorem cmp_le (hu : X.A.units + 64 < cLine) : OpR X (compareOp .LtE) (rCmp X.w X.K al P (Ev.cmpop .le)) := by
  intro pins s σ H x y v u Q I rx ry h
  obtain ⟨a, b, r, ha, hb, e, q⟩ := h
  obtain ⟨ob, oa, al', nb, e2⟩ := ltE_ok (res_not e)
  obtain ⟨⟨as, r1⟩, ⟨bs, r2⟩, d1, d2⟩ := two_reads I rx ry ha hb oa ob
  refine PySem.W.le_data r1 r2 (alike_toD a b (by rw [alike_comm]; exact al')) (ne_none_of_isNon (by rw [← non_of_alike al']; exact nb) (okD_and oa).1) (by omega) ⟨.bl _, H, I, rfl, ?_⟩
  rw [dataLt_toD b a al' (okD_and ob).1 (okD_and oa).1, ← e2, Bool.not_not]
  exact q
theorem cmp_ge (hu : X.A.units + 64 < cLine) : OpR X (compareOp .GtE) (rCmp X.w X.K al P (Ev.cmpop .ge)) := by
  intro pins s σ H x y v u Q I rx ry h
  obtain ⟨a, b, r, ha, hb, e, q⟩ := h
  obtain ⟨oa, ob, al', na, e2⟩ := ltE_ok (res_not e)
  obtain ⟨⟨as, r1⟩, ⟨bs, r2⟩, d1, d2⟩ := two_reads I rx ry ha hb oa ob
  refine PySem.W.ge_data r1 r2 (alike_toD a b al') (ne_none_of_isNon na (okD_and oa).1) (by omega) ⟨.bl _, H, I, rfl, ?_⟩
  rw [dataLt_toD a b al' (okD_and oa).1 (okD_and ob).1, ← e2, Bool.not_not]
  exact q
theorem any_toD {x : PV} (px : x.plain = true) : ∀ l : List PV, Ev.PV.plainL l = true → ((toDs l).any fun z => PyData.eqv z (toD x)) = l.any fun z => z.eqv x
  | [], _ => rfl
  | y :: l, h => by
    simp only [Ev.PV.plainL, Bool.and_eq_true] at h
    simp only [toDs, List.any_cons, eqv_toD y x h.1 px, any_toD px l h.2]
theorem cmp_in (hu : X.A.units + 64 < cLine) : OpR X (compareOp .In) (fun x y H Q => ∃ a b r, Rt X.w X.K al H P x a ∧ Rt X.w X.K al H P y b ∧ ((∃ l, b = .lst l) ∨ ∃ l, b = .tup l) ∧ Ev.memE a b = .ok r ∧ Q (.bl r) H) := by
  intro pins s σ H x y v u Q I rx ry h
  obtain ⟨a, b, r, ha, hb, hs, e, q⟩ := h
  rcases hs with ⟨l, rfl⟩ | ⟨l, rfl⟩
  · have e : (do Res.need (Ev.PV.plainL l && decide (Ev.PV.depthL l ≤ 60) && a.okD); Res.ok (l.any fun z => z.eqv a)) = .ok r := by cases a <;> exact e
    obtain ⟨f, e⟩ := need_bind e
    simp only [Bool.and_eq_true, decide_eq_true_eq] at f
    obtain ⟨⟨pl, dl⟩, oa⟩ := f
    obtain ⟨pa, da⟩ := okD_and oa
    obtain ⟨as, r1⟩ := Dp.reads I _ x v (rt_dp pa ha) rx
    obtain ⟨bs, r2⟩ := Dp.reads I _ y u (rt_dp (show (PV.lst l).plain = true by simpa [Ev.PV.plain] using pl) hb) ry
    rw [toD] at r2
    refine SeqAt.in_list_data r2 r1 (plain_toDs l pl) (plain_toD a pa) (by rw [depth_toDs l pl]; omega) ⟨.bl _, H, I, rfl, ?_⟩
    rw [any_toD pa l pl]
    cases e
    exact q
  · have e : (do Res.need (Ev.PV.plainL l && decide (Ev.PV.depthL l ≤ 60) && a.okD); Res.ok (l.any fun z => z.eqv a)) = .ok r := by cases a <;> exact e
    obtain ⟨f, e⟩ := need_bind e
    simp only [Bool.and_eq_true, decide_eq_true_eq] at f
    obtain ⟨⟨pl, dl⟩, oa⟩ := f
    obtain ⟨pa, da⟩ := okD_and oa
    obtain ⟨as, r1⟩ := Dp.reads I _ x v (rt_dp pa ha) rx
    obtain ⟨bs, r2⟩ := Dp.reads I _ y u (rt_dp (show (PV.tup l).plain = true by simpa [Ev.PV.plain] using pl) hb) ry
    rw [toD] at r2
    refine SeqAt.in_tuple_data r2 r1 (plain_toDs l pl) (plain_toD a pa) (by rw [depth_toDs l pl]; omega) ⟨.bl _, H, I, rfl, ?_⟩
    rw [any_toD pa l pl]
    cases e
    exact q
theorem cmp_notIn (hu : X.A.units + 64 < cLine) : OpR X (compareOp .NotIn) (fun x y H Q => ∃ a b r, Rt X.w X.K al H P x a ∧ Rt X.w X.K al H P y b ∧ ((∃ l, b = .lst l) ∨ ∃ l, b = .tup l) ∧ Ev.memE a b = .ok r ∧ Q (.bl !r) H) := by
  intro pins s σ H x y v u Q I rx ry h
  obtain ⟨a, b, r, ha, hb, hs, e, q⟩ := h
  rcases hs with ⟨l, rfl⟩ | ⟨l, rfl⟩
  · have e : (do Res.need (Ev.PV.plainL l && decide (Ev.PV.depthL l ≤ 60) && a.okD); Res.ok (l.any fun z => z.eqv a)) = .ok r := by cases a <;> exact e
    obtain ⟨f, e⟩ := need_bind e
    simp only [Bool.and_eq_true, decide_eq_true_eq] at f
    obtain ⟨⟨pl, dl⟩, oa⟩ := f
    obtain ⟨pa, da⟩ := okD_and oa
    obtain ⟨as, r1⟩ := Dp.reads I _ x v (rt_dp pa ha) rx
    obtain ⟨bs, r2⟩ := Dp.reads I _ y u (rt_dp (show (PV.lst l).plain = true by simpa [Ev.PV.plain] using pl) hb) ry
    rw [toD] at r2
    refine SeqAt.notIn_list_data r2 r1 (plain_toDs l pl) (plain_toD a pa) (by rw [depth_toDs l pl]; omega) ⟨.bl _, H, I, rfl, ?_⟩
    rw [any_toD pa l pl]
    cases e
    exact q
  · have e : (do Res.need (Ev.PV.plainL l && decide (Ev.PV.depthL l ≤ 60) && a.okD); Res.ok (l.any fun z => z.eqv a)) = .ok r := by cases a <;> exact e
    obtain ⟨f, e⟩ := need_bind e
    simp only [Bool.and_eq_true, decide_eq_true_eq] at f
    obtain ⟨⟨pl, dl⟩, oa⟩ := f
    obtain ⟨pa, da⟩ := okD_and oa
    obtain ⟨as, r1⟩ := Dp.reads I _ x v (rt_dp pa ha) rx
    obtain ⟨bs, r2⟩ := Dp.reads I _ y u (rt_dp (show (PV.tup l).plain = true by simpa [Ev.PV.plain] using pl) hb) ry
    rw [toD] at r2
    refine SeqAt.notIn_tuple_data r2 r1 (plain_toDs l pl) (plain_toD a pa) (by rw [depth_toDs l pl]; omega) ⟨.bl _, H, I, rfl, ?_⟩
    rw [any_toD pa l pl]
    cases e
    exact q
end
end EvB
end

section
set_option autoImplicit false
set_option Elab.async false
set_option linter.all false
set_option maxRecDepth 100000
set_option maxHeartbeats 1000000
namespace EvB
open PySem PySem.Spec PyProof.Rows L2
open Ev (PV Store Res)
section
variable {X : Cx} {al : List Addr} {P : Addr → Prop}
/-! ### is, in a text -/
theorem isNon_rt {w : World} {K : PySem.W.Frag} {H : Hp} {x : V} {a : PV} (h : Rt w K al H P x a) : decide (x = .non) = a.isNon := by
  cases h with
  | of h => cases h <;> simp [PV.isNon]
  | lst _ _ => simp [PV.isNon]
  | dct _ _ => simp [PV.isNon]
theorem isE_cases {a b : PV} {r : Bool} (e : Ev.isE a b = .ok r) : (b = .non ∧ r = a.isNon) ∨ (∃ i j, a = .bl i ∧ b = .bl j ∧ r = (i == j)) ∨ (∃ j, b = .bl j ∧ r = false ∧ (∀ i, a ≠ .bl i) ∧ (∀ n, a ≠ .cel n)) := by
  cases b with
  | non =>
    have : Ev.isE a .non = .ok a.isNon := by cases a <;> rfl
    rw [this] at e
    cases e
    exact .inl ⟨rfl, rfl⟩
  | bl j =>
    cases a with
    | bl i => cases e; exact .inr (.inl ⟨i, j, rfl, rfl, rfl⟩)
    | cel n => cases e
    | scr n => cases e
    | _ => cases e; exact .inr (.inr ⟨j, rfl, rfl, (fun i z => by cases z), (fun i z => by cases z)⟩)
  | _ => cases a <;> cases e
theorem nbl_rt {w : World} {K : PySem.W.Frag} {H : Hp} {x : V} {a : PV} {v : Value} {j : Bool} (h : Rt w K al H P x a) (n : ∀ i, a ≠ .bl i) (r : RelV x v) : plainIs v (.bool j) = true ∧ v ≠ .bool j := by
  have : ∀ (x : V), (∀ i, x ≠ .bl i) → RelV x v → (∀ n, x ≠ .ty n) → plainIs v (.bool j) = true ∧ v ≠ .bool j := by
    intro x hx r ht
    cases x with
    | non => cases r; exact ⟨rfl, fun z => by cases z⟩
    | bl i => exact absurd rfl (hx i)
    | int i => obtain ⟨t, rfl⟩ := r; exact ⟨rfl, fun z => by cases z⟩
    | str i => obtain ⟨t, rfl⟩ := r; exact ⟨rfl, fun z => by cases z⟩
    | byt i => obtain ⟨t, rfl⟩ := r; exact ⟨rfl, fun z => by cases z⟩
    | flt i => obtain ⟨t, rfl⟩ := r; exact ⟨rfl, fun z => by cases z⟩
    | ref i => cases r; exact ⟨rfl, fun z => by cases z⟩
    | ty i => exact absurd rfl (ht i)
  cases h with
  | of h =>
    cases h with
    | bl b => exact absurd rfl (n b)
    | _ => exact this _ (fun i z => by cases z) r (fun i z => by cases z)
  | lst _ _ => exact this _ (fun i z => by cases z) r (fun i z => by cases z)
  | dct _ _ => exact this _ (fun i z => by cases z) r (fun i z => by cases z)
theorem cmp_is : OpR X (compareOp .Is) (rCmp X.w X.K al P (Ev.cmpop .is)) := by
  intro pins s σ H x y v u Q I rx ry h
  obtain ⟨a, b, r, ha, hb, e, q⟩ := h
  rcases isE_cases e with ⟨rfl, rfl⟩ | ⟨i, j, rfl, rfl, rfl⟩ | ⟨j, rfl, rfl, n1, n2⟩
  · rw [hb.nonE] at ry
    refine op_isN pins s σ H x _ v u Q I rx ry ⟨rfl, ?_⟩
    rw [isNon_rt ha]
    exact q
  · rw [ha.blE] at rx
    rw [hb.blE] at ry
    exact op_is_bl pins s σ H _ _ v u Q I rx ry ⟨i, j, rfl, rfl, q⟩
  · rw [hb.blE] at ry
    cases ry
    obtain ⟨p1, p2⟩ := nbl_rt (j := j) ha n1 rx
    exact wpAny_is_other p1 p2 ⟨.bl false, H, I, rfl, q⟩
theorem op_isnot_bl' : OpR X (compareOp .IsNot) (fun x y H Q => ∃ a b, x = .bl a ∧ y = .bl b ∧ Q (.bl (!(a == b))) H) := by
  intro pins s σ H x y v u Q I rx ry h
  obtain ⟨a, b, rfl, rfl, q⟩ := h
  cases (show v = Value.bool a from rx)
  cases (show u = Value.bool b from ry)
  by_cases e : a = b
  · subst e
    exact wpAny_isNot_self rfl ⟨.bl false, H, I, rfl, by simpa using q⟩
  · refine wpAny_isNot_other rfl (fun z => e (Value.bool.inj z)) ⟨.bl true, H, I, rfl, ?_⟩
    rw [beq_eq_false_iff_ne.mpr e] at q
    exact q
theorem cmp_isn : OpR X (compareOp .IsNot) (rCmp X.w X.K al P (Ev.cmpop .isn)) := by
  intro pins s σ H x y v u Q I rx ry h
  obtain ⟨a, b, r, ha, hb, e, q⟩ := h
  have e := res_not e
  rcases isE_cases e with ⟨rfl, e2⟩ | ⟨i, j, rfl, rfl, e2⟩ | ⟨j, rfl, e2, n1, n2⟩
  · rw [hb.nonE] at ry
    refine op_notN pins s σ H x _ v u Q I rx ry ⟨rfl, ?_⟩
    rw [isNon_rt ha, ← e2, Bool.not_not]
    exact q
  · rw [ha.blE] at rx
    rw [hb.blE] at ry
    refine op_isnot_bl' pins s σ H _ _ v u Q I rx ry ⟨i, j, rfl, rfl, ?_⟩
    rw [← e2, Bool.not_not]
    exact q
  · rw [hb.blE] at ry
    cases ry
    obtain ⟨p1, p2⟩ := nbl_rt (j := j) ha n1 rx
    refine wpAny_isNot_other p1 p2 ⟨.bl true, H, I, rfl, ?_⟩
    have : r = true := by simpa using e2
    rw [this] at q
    exact q
theorem cmp_inS : OpR X (compareOp .In) (fun x y H Q => ∃ c t, Rt X.w X.K al H P x (.str [c]) ∧ Rt X.w X.K al H P y (.str t) ∧ Q (.bl (decide (c ∈ t))) H) := by
  intro pins s σ H x y v u Q I rx ry h
  obtain ⟨c, t, ha, hb, q⟩ := h
  rw [ha.strE] at rx
  rw [hb.strE] at ry
  exact op_in_sign pins s σ H _ _ v u Q I rx ry ⟨c, toS t, rfl, rfl, q⟩
theorem cmp_notInS : OpR X (compareOp .NotIn) (fun x y H Q => ∃ c t, Rt X.w X.K al H P x (.str [c]) ∧ Rt X.w X.K al H P y (.str t) ∧ Q (.bl (!decide (c ∈ t))) H) := by
  intro pins s σ H x y v u Q I rx ry h
  obtain ⟨c, t, ha, hb, q⟩ := h
  rw [ha.strE] at rx
  rw [hb.strE] at ry
  exact op_notIn_sign pins s σ H _ _ v u Q I rx ry ⟨c, toS t, rfl, rfl, q⟩
/-! ### truth -/
theorem tru_rt {w : World} {K : PySem.W.Frag} {H : Hp} {x : V} {a : PV} {r : Bool} (h : Rt w K al H P x a) (e : Ev.truthy a = .ok r) : TruV K x H r := by
  cases a with
  | non => rw [h.nonE]; cases e; rfl
  | bl b => rw [h.blE]; cases e; rfl
  | int i => cases e
  | str s =>
    have hl := h.strL
    rw [h.strE]
    cases e
    refine ⟨by rw [toS_length]; exact hl, ?_⟩
    rw [toS_length]
    cases s <;> rfl
  | tup l =>
    obtain ⟨p, xs, rfl, h1, h2⟩ := h.tupE
    cases e
    refine .inr (.inl ⟨xs, h1, ?_⟩)
    cases h2 <;> rfl
  | lst l =>
    obtain ⟨p, xs, rfl, h1, h2⟩ := h.list
    cases e
    refine .inl ⟨xs, .inl (.inl h1), ?_⟩
    cases h2 <;> rfl
  | dct l => cases e
  | cel l => cases e
  | scr l => cases e
/-! ### subscripts, slices -/
theorem atL_atI {α : Type} (l : List α) (i : Int) : Ev.atL l i = atI l i := rfl
theorem rzl_atL {w : World} {K : PySem.W.Frag} {H : Hp} {xs : List V} {ds : List PV} {i : Int} {r : PV} (h : RzL w K al H P xs ds) (e : Ev.atL ds i = some r) : ∃ v, atI xs i = some v ∧ Rz w K al H P v r := by
  have hl := h.length
  unfold Ev.atL at e
  unfold atI
  rw [hl]
  change (ixN ds.length i).bind _ = _ at e
  cases q : ixN ds.length i with
  | none => rw [q] at e; cases e
  | some j =>
    rw [q] at e
    obtain ⟨v, h1, h2⟩ := h.get (show ds[j]? = some r from e)
    exact ⟨v, h1, h2⟩
theorem ofOpt_ok {α : Type} {o : Option α} {r : α} (e : Res.ofOpt o = .ok r) : o = some r := by
  cases o with
  | none => cases e
  | some a => cases e; rfl
theorem atI_get {α : Type} {l : List α} {i : Int} {r : α} (e : Ev.atL l i = some r) : ∃ j : Nat, l[j]? = some r := by
  unfold Ev.atL at e
  cases q : Ev.place l.length i with
  | none => rw [q] at e; cases e
  | some j => rw [q] at e; exact ⟨j, e⟩
/-- x[y] of a list, a tuple, a text, the script -/
theorem ix_all : IxR X (fun x y H Q => ∃ a b r, Rt X.w X.K al H P x a ∧ Rt X.w X.K al H P y b ∧ (∀ l, a ≠ .dct l) ∧ Ev.subscr a b = .ok r ∧ Yes X.w X.K al H P false r Q) := by
  intro value slice pins s σ H x y v u Q I rx ry h hs
  obtain ⟨a, b, r, ha, hb, nd, e, q⟩ := h
  cases a with
  | lst l =>
    cases b with
    | int i =>
      obtain ⟨f, e⟩ := need_bind e
      obtain ⟨p, xs, rfl, h1, h2⟩ := ha.list
      rw [hb.intE] at ry
      obtain ⟨z, e1, e2⟩ := rzl_atL h2 (ofOpt_ok e)
      exact ix_list value slice pins s σ H _ _ v u Q I rx ry ⟨p, xs, i, z, rfl, rfl, .inl (.inl h1), e1, q.pass e2⟩ hs
    | _ => cases e
  | tup l =>
    cases b with
    | int i =>
      obtain ⟨f, e⟩ := need_bind e
      obtain ⟨p, xs, rfl, h1, h2⟩ := ha.tupE
      rw [hb.intE] at ry
      obtain ⟨z, e1, e2⟩ := rzl_atL h2 (ofOpt_ok e)
      exact ix_tup value slice pins s σ H _ _ v u Q I rx ry ⟨p, xs, i, z, rfl, rfl, h1, e1, q.pass e2⟩ hs
    | _ => cases e
  | str t =>
    cases b with
    | int i =>
      obtain ⟨f, e⟩ := need_bind e
      obtain ⟨c, e1, e2⟩ := Res.bind_eq_ok e
      cases e2
      have hl := ha.strL
      rw [ha.strE] at rx
      rw [hb.intE] at ry
      exact ix_str value slice pins s σ H _ _ v u Q I rx ry ⟨toS t, i, c, rfl, rfl, by rw [toS_length]; exact hl, ofOpt_ok e1, q.str (by rw [sizeLine_eq]; exact Nat.le_of_lt_succ (by simp))⟩ hs
    | _ => cases e
  | scr l =>
    cases b with
    | int i =>
      obtain ⟨f, e⟩ := need_bind e
      obtain ⟨c, e1, e2⟩ := Res.bind_eq_ok e
      cases e2
      rw [hb.intE] at ry
      cases ha.rz rfl with
      | scr h1 =>
        refine ix_list value slice pins s σ H _ _ v u Q I rx ry ⟨_, _, i, .int c, rfl, rfl, h1.sq, ?_, q.int⟩ hs
        have e1 := ofOpt_ok e1
        rw [atL_atI] at e1
        unfold atI at e1 ⊢
        rw [List.length_map]
        cases k : ixN l.length i with
        | none => rw [k] at e1; cases e1
        | some j =>
          rw [k] at e1
          show (l.map V.int)[j]? = some (V.int c)
          rw [List.getElem?_map, show l[j]? = some c from e1]
          rfl
    | _ => cases e
  | dct l => exact absurd rfl (nd l)
  | non => cases b <;> cases e
  | bl _ => cases b <;> cases e
  | int _ => cases b <;> cases e
  | cel _ => cases b <;> cases e
theorem sIx_bnd (n d : Nat) (o : Option Int) : HT.sIx n d o = Ev.bnd n d o := by
  cases o with
  | none => rfl
  | some i =>
    show (if i < 0 then (i + (n : Int)).toNat else min i.toNat n) = (if 0 ≤ i then min i.toNat n else (i + n).toNat)
    by_cases h : i < 0
    · rw [if_pos h, if_neg (by omega)]
    · rw [if_neg h, if_pos (by omega)]
theorem cut_eq {α : Type} (l : List α) (lo hi : Option Int) : Ev.cut l lo hi = (l.drop (HT.sIx l.length 0 lo)).take (HT.sIx l.length l.length hi - HT.sIx l.length 0 lo) := by
  unfold Ev.cut
  rw [← sIx_bnd, ← sIx_bnd, List.drop_take]
theorem rzl_cut {w : World} {K : PySem.W.Frag} {H : Hp} {xs : List V} {ds : List PV} {lo hi : Option Int} (h : RzL w K al H P xs ds) : RzL w K al H P (cutV xs lo hi) (Ev.cut ds lo hi) := by
  rw [cut_eq]
  unfold cutV
  rw [h.length]
  exact (h.drop _).take _
theorem cut_length {α : Type} (l : List α) (lo hi : Option Int) : (Ev.cut l lo hi).length ≤ l.length := by
  rw [cut_eq, List.length_take, List.length_drop]
  omega
def sliceV (v : PV) (l h : Option Int) : Res PV := match v with
  | .lst x => .ok (.lst (Ev.cut x l h))
  | .tup x => .ok (.tup (Ev.cut x l h))
  | .str x => .ok (.str (Ev.cut x l h))
  | _ => .bad
theorem sl_all : SlR X (fun x lo hi H Q => ∃ a r, Rt X.w X.K al H P x a ∧ sliceV a lo hi = .ok r ∧ (∀ p, H p = none → P p) ∧ Yes X.w X.K al H P true r Q) := by
  intro pins s σ H x v vl vu lo hi sl Q I rx hs pl pu h
  obtain ⟨a, r, ha, e, fr, q⟩ := h
  cases a with
  | lst l =>
    cases e
    obtain ⟨p, xs, rfl, h1, h2⟩ := ha.list
    exact sl_list pins s σ H _ v vl vu lo hi sl Q I rx hs pl pu ⟨p, xs, rfl, .inl (.inl h1), fun p np => q.newL (rzl_cut h2) np (fr p np)⟩
  | tup l =>
    cases e
    obtain ⟨p, xs, rfl, h1, h2⟩ := ha.tupE
    refine sl_tupA pins s σ H _ v vl vu lo hi sl Q I rx hs pl pu ⟨p, xs, rfl, h1, fun z => ?_, fun z p np => q.newT (rzl_cut h2) np⟩
    have e1 : Ev.cut l lo hi = l := by
      rw [cut_eq, ← h2.length, z.1, z.2, List.drop_zero, h2.length, Nat.sub_zero, List.take_length]
    rw [e1] at q
    exact q.old (.tup h1 h2) rfl
  | str t =>
    cases e
    have hl := ha.strL
    rw [ha.strE] at rx
    have := q.str (Nat.le_trans (cut_length t lo hi) hl)
    refine sl_str pins s σ H _ v vl vu lo hi sl Q I rx hs pl pu ⟨toS t, rfl, by rw [toS_length]; exact hl, ?_⟩
    have e1 : cutS (toS t) lo hi = toS (Ev.cut t lo hi) := by
      unfold cutS
      rw [cut_eq, toS_length]
    rw [e1]
    exact this
  | _ => cases e
/-! ### x[::-1] -/
theorem rev_picks {α : Type} (xs : Array α) : ((List.range xs.size).filterMap fun (m : Nat) => xs[(((xs.size : Int) - 1) + (m : Int) * (-1)).toNat]?) = xs.toList.reverse := by
  apply List.ext_getElem?
  intro i
  have e : ((List.range xs.size).filterMap fun (m : Nat) => xs[(((xs.size : Int) - 1) + (m : Int) * (-1)).toNat]?) = (List.range xs.size).pmap (fun m (h : m < xs.size) => xs[xs.size - 1 - m]) (fun m h => List.mem_range.mp h) := by
    have : ∀ l : List Nat, (hl : ∀ m ∈ l, m < xs.size) → (l.filterMap fun (m : Nat) => xs[(((xs.size : Int) - 1) + (m : Int) * (-1)).toNat]?) = l.pmap (fun m (h : m < xs.size) => xs[xs.size - 1 - m]) hl := by
      intro l
      induction l with
      | nil => intro _; rfl
      | cons m l ih =>
        intro hl
        have hm := hl m List.mem_cons_self
        have e1 : (((xs.size : Int) - 1) + (m : Int) * (-1)).toNat = xs.size - 1 - m := by omega
        rw [List.filterMap_cons, e1, Array.getElem?_eq_getElem (by omega), List.pmap_cons]
        show _ :: _ = _ :: _
        rw [ih]
    exact this _ _
  rw [e]
  by_cases hi : i < xs.size
  · rw [List.getElem?_eq_getElem (by simpa using hi), List.getElem?_eq_getElem (by simpa using hi), List.getElem_pmap, List.getElem_reverse]
    simp
  · rw [List.getElem?_eq_none (by simpa using hi), List.getElem?_eq_none (by simpa using hi)]
theorem sliceApplied_rev {prog : Program} {w : World} {A : Around} {E : Value → Shared → Prop} {s : Shared} {sl : Addr} {n : Nat} {vl vu vs : Value} {Q : Int × Int × Nat → Shared → Prop} (hs : s.heap.IsSliceOf sl vl vu vs) (pl : IsPart vl none) (pu : IsPart vu none) (ps : IsPart vs (some (-1)))
    (hq : Q ((n : Int) - 1, -1, n) s) : wpAny (model prog w) A (Builtin.Slice.sliceApplied (.ref sl) (pure (n : Int))) Q E s := by
  obtain ⟨os, hos, hcs, hds⟩ := id hs
  unfold Builtin.Slice.sliceApplied Builtin.Slice.sliceFields
  refine wpAny_bind (wpAny_bind (wpAny_field hos hds (x := vl) rfl (wpAny_bind (wpAny_field hos hds (x := vu) rfl (wpAny_bind (wpAny_field hos hds (x := vs) rfl (wpAny_pure ?_)))))))
  refine wpAny_bind (HT.slicePart_ ps ?_)
  show wpAny _ _ (if ((-1 : Int) == 0) = true then _ else _) _ _ s
  rw [if_neg (by decide)]
  refine wpAny_bind (HT.slicePart_ pl (wpAny_bind (HT.slicePart_ pu (wpAny_bind (wpAny_pure ?_)))))
  have e1 : Builtin.Slice.sliceAdjust none none (-1) (n : Int) = ((n : Int) - 1, -1) := by
    unfold Builtin.Slice.sliceAdjust
    simp
  show wpAny _ _ (match Builtin.Slice.sliceAdjust none none (-1) (n : Int) with | (lo, hi) => pure (lo, (-1 : Int), Builtin.Slice.slicePlaces lo hi (-1))) _ _ s
  rw [e1]
  have e2 : Builtin.Slice.slicePlaces ((n : Int) - 1) (-1) (-1) = n := by
    unfold Builtin.Slice.slicePlaces
    simp only [show ¬ ((-1 : Int) > 0) by decide, if_false]
    by_cases h0 : n = 0
    · subst h0; decide
    · have : (n : Int) - 1 > -1 := by omega
      simp only [this]
      simp
  show wpAny _ _ (pure ((n : Int) - 1, (-1 : Int), Builtin.Slice.slicePlaces ((n : Int) - 1) (-1) (-1))) _ _ s
  rw [e2]
  exact wpAny_pure hq
theorem getItem_tuple_rev {prog : Program} {w : World} {A : Around} {E : Value → Shared → Prop} {s : Shared} {t sl : Addr} {items : Array Value} {vl vu vs : Value} {Q : Value → Shared → Prop} (ht : IsTup s.heap t items) (hs : s.heap.IsSliceOf sl vl vu vs) (pl : IsPart vl none) (pu : IsPart vu none) (ps : IsPart vs (some (-1)))
    (h : Q (.ref s.heap.objs.size) { s with heap := s.heap.push { cls := .type "tuple", data := .seq items.toList.reverse.toArray } })
    (hsz : items.size ≤ sizeLine) : wpAny (model prog w) A (getItem (.ref t) (.ref sl)) Q E s := by
  obtain ⟨os, hos, hcs, hds⟩ := id hs
  have hTs : s.TypeIs (.ref sl) "slice" := ⟨os, hos, hcs⟩
  unfold getItem
  try with_reducible refine wpAny_holding ?_
  first | refine wpAny_bind (wpAny_pure ?_) | skip
  refine wpAny_bind (wpAny_sequenceKey ht.typeIs (by decide) ?_)
  refine wpAny_bind (wpAny_callSpecial?_slot (name := Str.ofString "__getitem__") ht.typeIs PyProof.Rows.slot_tuple_getitem
    (wpAny_call_entry PyProof.Rows.slot_tuple_getitem ht.typeIs PyProof.Rows.entry_tuple_getitem ?_ (PyProof.Rows.args_tuple_getitem _ _)))
  show wpAny _ _ (Builtin.Tuple.tupleItemsOf (.ref t) >>= _) _ _ s
  refine wpAny_bind (tupleItemsOf_ ht ?_)
  refine wpAny_bind (wpAny_typeOf hTs ?_)
  rw [if_pos (by decide)]
  refine wpAny_bind (sliceApplied_rev hs pl pu ps ?_)
  show wpAny _ _ (if (((items.size : Int) - 1) == 0 && (-1 : Int) == 1 && items.size == items.size) = true then _ else _) _ _ s
  rw [if_neg (by simp)]
  rw [show ((List.range items.size).filterMap fun (k : Nat) => items[(((items.size : Int) - 1) + (k : Int) * (-1)).toNat]?).toArray = items.toList.reverse.toArray by rw [rev_picks]]
  have hok : sizeOk (.seq items.toList.reverse.toArray) := by
    show items.toList.reverse.toArray.size ≤ sizeLine
    simpa using hsz
  first
    | exact wpAny_bind (m := Builtin.Tuple.tupleExact _) (wpAny_newObj_type (wpAny_pure ⟨_, rfl, wpAny_pure h⟩) hok)
    | exact wpAny_bind (m := Builtin.Tuple.tupleExact _) (wpAny_newObj_type (wpAny_bind (wpAny_pure (wpAny_pure ⟨_, rfl, wpAny_pure h⟩))) hok)
    | exact wpAny_bind (wpAny_bind (m := Builtin.Tuple.tupleExact _) (wpAny_newObj_type (wpAny_pure (wpAny_pure ⟨_, rfl, wpAny_pure h⟩)) hok))
    | exact wpAny_bind (wpAny_bind (m := Builtin.Tuple.tupleExact _) (wpAny_newObj_type (wpAny_pure ⟨_, rfl, wpAny_pure h⟩) hok))
theorem str_sl_rev (n : Nat) : Builtin.Str.strSliceIndices none none (-1) n = (List.range n).reverse := by
  show sliceRange ((n : Int) - 1) (-1) (-1) = _
  rw [PySem.W.krv_sliceRange, PySem.W.krv_range]
def tRev (w : World) (K : PySem.W.Frag) (al : List Addr) (P : Addr → Prop) (te : TE) : TE := fun σ H Q => te σ H fun x H1 => ∃ a r, Rt w K al H1 P x a ∧ Ev.revE a = .ok r ∧ (∀ p, H1 p = none → P p) ∧ Yes w K al H1 P true r Q
theorem pe_rev {e : Expr} {te : TE} {k : Nat} {p1 p2 p3 pos : Pos} (he : PE X e te) : PE X (.Subscript e (.Slice none none (some (.UnaryOp .USub (.Constant (.int 1) k p1) p2)) p3) pos) (tRev X.w X.K al P te) := by
  refine ⟨fun pins s σ H Q I h => ?_⟩
  refine Subscript_ (thn (he.run pins s σ H _ I h) fun v s1 ⟨x, H1, I1, r1, q1⟩ => ?_)
  obtain ⟨a, r, ha, e, fr, q⟩ := q1
  have hst : PO X (some (.UnaryOp .USub (.Constant (.int 1) k p1) p2)) (tPart (tUn (rU fun i => .int (-i)) (tC (.int 1)))) := po_some (pe_un un_neg pe_int)
  refine wpAny_Slice (thn (po_none.run pins s1 σ H1 (fun o H2 => o = none ∧ H2 = H1) I1 ⟨rfl, rfl⟩) fun vl s2 ⟨l, H2, I2, pl, el, e2⟩ => ?_)
  subst el e2
  refine thn (po_none.run pins s2 σ H2 (fun o H3 => o = none ∧ H3 = H2) I2 ⟨rfl, rfl⟩) fun vu s3 ⟨u, H3, I3, pu, eu, e3⟩ => ?_
  subst eu e3
  refine thn (hst.run pins s3 σ H3 (fun o H4 => o = some (-1) ∧ H4 = H3) I3 ⟨1, rfl, -1, rfl, rfl, rfl⟩) fun vs s4 ⟨o, H4, I4, ps, eo, e4⟩ => ?_
  subst eo e4
  have I5 : Inv X pins σ H4 { s4 with heap := s4.heap.push { cls := .type "slice", data := .fields #[vl, vu, vs] } } := I4.kept (t' := s4.toks) fun b ob q => Heap.get?_push_of_some _ q
  cases a with
  | lst l =>
    cases e
    obtain ⟨a, xs, rfl, h1, h2⟩ := ha.list
    cases r1
    obtain ⟨its, r, ht, hz⟩ := I5.list (.inl (.inl h1))
    have hlen := r.length
    refine tail_any (ops := [.ref a, .ref s4.heap.objs.size]) ht.isList.typeIs (PySem.slot_list_getitem.lookup) ?_ (by with_unfolding_all rfl)
    refine wpAny_getItem_list_slice ht.isList (Heap.IsSliceOf.new _ vl vu vs) pl pu ps (by decide) ?_ (by rw [List.size_toArray]; omega)
    rw [PySem.W.krv_pick]
    refine ⟨.ref _, _, I5.laid (t' := s4.toks) (o := .lst xs.reverse) (fun b ob q => Heap.get?_push_of_some _ q) (Nat.le_refl _) ?_, rfl, q.newL h2.reverse (I5.hok.fresh (Nat.le_refl _)) (fr _ (I5.hok.fresh (Nat.le_refl _)))⟩
    exact ⟨by rw [List.length_reverse]; exact hz, _, 0, r.reverse, Heap.get?_push_size _ rfl⟩
  | tup l =>
    cases e
    obtain ⟨a, xs, rfl, h1, h2⟩ := ha.tupE
    cases r1
    obtain ⟨its, r, ht, hz⟩ := I5.tuple h1
    have hlen := r.length
    refine tail_any (ops := [.ref a, .ref s4.heap.objs.size]) ht.typeIs (PyProof.Rows.slot_tuple_getitem.lookup) ?_ (by with_unfolding_all rfl)
    refine getItem_tuple_rev ht (Heap.IsSliceOf.new _ vl vu vs) pl pu ps ?_ (by rw [List.size_toArray]; omega)
    refine ⟨.ref _, _, I5.laid (t' := s4.toks) (o := .tup xs.reverse) (fun b ob q => Heap.get?_push_of_some _ q) (Nat.le_refl _) ?_, rfl, q.newT h2.reverse (I5.hok.fresh (Nat.le_refl _))⟩
    exact ⟨by rw [List.length_reverse]; exact hz, _, r.reverse, IsTup.new _ _⟩
  | str t =>
    cases e
    have hl := ha.strL
    rw [ha.strE] at r1
    obtain ⟨tk, rfl⟩ := r1
    cases pl
    cases pu
    obtain ⟨st, rfl, est'⟩ := IsPart.raw ps
    refine tail_any (ops := [.str (toS t) tk, .ref s4.heap.objs.size]) (typeIs_str _ _ _) F.slot_str_getitem.lookup ?_ (by with_unfolding_all rfl)
    have hsl : ({ s4 with heap := s4.heap.push { cls := .type "slice", data := .fields #[Value.none, Value.none, partValue st] } } : Shared).heap.IsSlice s4.heap.objs.size none none st := ⟨_, Heap.get?_push_size _ rfl, rfl, rfl⟩
    refine wpAny_getItem_str_slice (l := none) (u := none) (st := st) hsl (by rw [est']; rfl) ?_
    unfold sliceMade
    rw [est']
    rw [if_neg (by simp)]
    have e3 : ((slicePicked (toS t) none none st).filterMap ((toS t).cps[·]?)).toArray = t.reverse.toArray := by
      have e4 : slicePicked (toS t) none none st = (List.range t.length).reverse := by
        unfold slicePicked
        rw [est']
        show Builtin.Str.strSliceIndices none none (-1) (toS t).length = _
        rw [str_sl_rev, toS_length]
      rw [e4, List.filterMap_reverse]
      have e5 := PySem.W.krv_all t.toArray
      simp only [List.size_toArray] at e5
      show ((List.range t.length).filterMap (t.toArray[·]?)).reverse.toArray = _
      rw [e5]
    rw [e3]
    exact ⟨by show t.reverse.toArray.size ≤ sizeLine; simpa using hl, .str (toS t.reverse), H4, I5.tok _, ⟨_, rfl⟩, q.str (by simpa using hl)⟩
  | _ => cases e
end
end EvB
end

section
set_option autoImplicit false
set_option Elab.async false
set_option linter.all false
set_option maxRecDepth 100000
set_option maxHeartbeats 1000000
/-! dicts of any keys, as they stand in the heap -/
namespace EvB
open PySem PySem.Spec PyProof.Rows L2
open Ev (PV Store Res)

abbrev Row := NestedKey × Value × Value
def ent (w : World) (r : Row) : DictEntry := ⟨r.1.hash w, r.2.1, r.2.2⟩
def Told (h : Heap) (rs : List Row) : Prop := ∀ r ∈ rs, NestedIs h r.1 r.2.1 ∧ r.1.depth ≤ 8
def Raw (w : World) (h : Heap) (d : Addr) (ep : Nat) (rs : List Row) : Prop :=
  (∃ o es, h.get? d = some o ∧ o.ExactDict ∧ o.data = .dict es ep ∧ es.toList = rs.map (ent w)) ∧ Told h rs ∧ (rs.map (·.1)).Nodup
def pl {β : Type} (rs : List (NestedKey × β)) (c : NestedKey) : Option Nat := rs.findIdx? fun r => decide (r.1 = c)
theorem pl_none {β : Type} {rs : List (NestedKey × β)} {c : NestedKey} : pl rs c = none ↔ ∀ r ∈ rs, r.1 ≠ c := by
  unfold pl
  rw [List.findIdx?_eq_none_iff]
  exact ⟨fun h r m => of_decide_eq_false (h r m), fun h r m => decide_eq_false (h r m)⟩
theorem pl_some {β : Type} {rs : List (NestedKey × β)} {c : NestedKey} {j : Nat} (h : pl rs c = some j) : ∃ r, rs[j]? = some r ∧ r.1 = c := by
  obtain ⟨lt, e, _⟩ := List.findIdx?_eq_some_iff_getElem.mp h
  exact ⟨_, List.getElem?_eq_getElem lt, of_decide_eq_true e⟩
theorem pl_at {β : Type} {rs : List (NestedKey × β)} {c : NestedKey} {j : Nat} {r : NestedKey × β} (hn : (rs.map (·.1)).Nodup) (h : rs[j]? = some r) (e : r.1 = c) : pl rs c = some j := by
  obtain ⟨lt, e1⟩ := List.getElem?_eq_some_iff.mp h
  refine List.findIdx?_eq_some_iff_getElem.mpr ⟨lt, by rw [e1, e]; exact decide_eq_true rfl, fun i hi => ?_⟩
  have e2 : ¬ (rs[i]'(by omega)).1 = c := fun z => by
    have a1 : (rs.map (·.1))[i]? = some c := by rw [List.getElem?_map, List.getElem?_eq_getElem (by omega), Option.map_some, z]
    have a2 : (rs.map (·.1))[j]? = some c := by rw [List.getElem?_map, h, Option.map_some, e]
    have := (List.getElem?_inj (by rw [List.length_map]; omega) hn).mp (a1.trans a2.symm)
    omega
  simpa using e2
def putB {β : Type} (rs : List (NestedKey × β)) (c : NestedKey) (f : β → β) (n : β) : List (NestedKey × β) := match pl rs c with
  | some j => rs.modify j fun r => (r.1, f r.2)
  | none => rs ++ [(c, n)]
def getB {β : Type} (rs : List (NestedKey × β)) (c : NestedKey) : Option β := (pl rs c).bind fun j => rs[j]?.map (·.2)
def delB {β : Type} (rs : List (NestedKey × β)) (c : NestedKey) : List (NestedKey × β) := match pl rs c with
  | some j => rs.eraseIdx j
  | none => rs
theorem keys_modify {β : Type} (f : β → β) : ∀ (rs : List (NestedKey × β)) (j : Nat), (rs.modify j fun r => (r.1, f r.2)).map (·.1) = rs.map (·.1)
  | [], j => by cases j <;> rfl
  | r :: rs, 0 => rfl
  | r :: rs, j + 1 => by
    rw [List.modify_succ_cons, List.map_cons, List.map_cons, keys_modify f rs j]
theorem nodup_putB {β : Type} {rs : List (NestedKey × β)} (h : (rs.map (·.1)).Nodup) (c : NestedKey) (f : β → β) (n : β) : ((putB rs c f n).map (·.1)).Nodup := by
  unfold putB
  split
  · rw [keys_modify]
    exact h
  · rename_i e
    rw [List.map_append, List.nodup_append]
    refine ⟨h, by simp, fun x hx y hy z => ?_⟩
    obtain ⟨r, m, rfl⟩ := List.mem_map.mp hx
    have : y = c := by simpa using hy
    exact pl_none.mp e r m (z.trans this)
theorem nodup_delB {β : Type} {rs : List (NestedKey × β)} (h : (rs.map (·.1)).Nodup) (c : NestedKey) : ((delB rs c).map (·.1)).Nodup := by
  unfold delB
  split
  · exact List.Nodup.sublist (List.Sublist.map _ (List.eraseIdx_sublist _ _)) h
  · exact h
theorem length_putB {β : Type} (rs : List (NestedKey × β)) (c : NestedKey) (f : β → β) (n : β) : (putB rs c f n).length ≤ rs.length + 1 := by
  unfold putB
  split <;> simp
theorem length_delB {β : Type} (rs : List (NestedKey × β)) (c : NestedKey) : (delB rs c).length ≤ rs.length := by
  unfold delB
  split
  · exact List.length_eraseIdx_le _ _
  · exact Nat.le_refl _
theorem mem_modify {β : Type} {f : β → β} {r : NestedKey × β} : ∀ {rs : List (NestedKey × β)} {j : Nat}, r ∈ rs.modify j (fun r => (r.1, f r.2)) → ∃ r0 ∈ rs, r = r0 ∨ r = (r0.1, f r0.2)
  | [], j, h => by cases j <;> cases h
  | r0 :: rs, 0, h => by
    rcases List.mem_cons.mp h with h | h
    · exact ⟨r0, List.mem_cons_self, .inr h⟩
    · exact ⟨r, List.mem_cons_of_mem _ h, .inl rfl⟩
  | r0 :: rs, j + 1, h => by
    rw [List.modify_succ_cons] at h
    rcases List.mem_cons.mp h with h | h
    · exact ⟨r0, List.mem_cons_self, .inl h⟩
    · obtain ⟨r1, m, e⟩ := mem_modify h
      exact ⟨r1, List.mem_cons_of_mem _ m, e⟩
theorem told_put {h : Heap} {rs : List Row} {c : NestedKey} {u v : Value} (t : Told h rs) (hc : NestedIs h c u) (dc : c.depth ≤ 8) : Told h (putB rs c (fun p => (p.1, v)) (u, v)) := by
  intro r m
  unfold putB at m
  split at m
  · obtain ⟨r0, m0, e⟩ := mem_modify (β := Value × Value) (f := fun p => (p.1, v)) m
    have tr := t r0 m0
    rcases e with e | e
    · rw [e]
      exact tr
    · rw [e]
      exact tr
  · rcases List.mem_append.mp m with m | m
    · exact t r m
    · rw [List.mem_singleton.mp m]
      exact ⟨hc, dc⟩
theorem told_del {h : Heap} {rs : List Row} (c : NestedKey) (t : Told h rs) : Told h (delB rs c) := by
  intro r m
  unfold delB at m
  split at m
  · exact t r (List.mem_of_mem_eraseIdx m)
  · exact t r m
theorem Told.but {h h' : Heap} {rs : List Row} {d : Addr} {o : Obj} {es : Array DictEntry} {ep : Nat} (t : Told h rs) (ho : h.get? d = some o) (hd : o.data = .dict es ep) (sb : Heap.SameBut d h h') : Told h' rs := fun r m =>
  ⟨NestedIs.at (fun b ob vs n hb hc => by
    refine (sb.2 b fun e => ?_).trans hb
    rw [e, ho] at hb
    cases hb
    rw [hd] at hc
    cases hc) _ _ (t r m).1, (t r m).2⟩
section
variable {prog : Program} {w : World} {A : Around} {E : Value → Shared → Prop} {s : Shared}
theorem eqK {Q : Bool → Shared → Prop} {x y : NestedKey} {a b : Value} (hu : A.units + 8 < cLine) (hx : NestedIs s.heap x a) (hy : NestedIs s.heap y b) (dx : x.depth ≤ 8) (h : Q (decide (x = y)) s) : wpAny (model prog w) A (eqBool a b) Q E s :=
  eqAt_key x y A s a b hx hy (by omega) _ _ _ _ (by rw [← NestedKey.decide_eq]; exact h)
theorem ent_at {es : Array DictEntry} {rs : List Row} (he : es.toList = rs.map (ent w)) (j : Nat) : es[j]? = (rs[j]?).map (ent w) := by
  rw [← List.getElem?_map, ← he, Array.getElem?_toList]
theorem ent_size {es : Array DictEntry} {rs : List Row} (he : es.toList = rs.map (ent w)) : es.size = rs.length := by
  have := congrArg List.length he
  simpa using this
theorem isStr_key {h : Heap} {x : NestedKey} {v : Value} {t : Str} (r : NestedIs h x v) : v.isStr t = decide (x = .text t) := by
  cases r with
  | none => exact (decide_eq_false (by intro z; cases z)).symm
  | bool e => exact (decide_eq_false (by intro z; cases z)).symm
  | int i u => exact (decide_eq_false (by intro z; cases z)).symm
  | text y u =>
    show (y == t) = _
    by_cases e : y = t
    · rw [decide_eq_true (by rw [e]), beq_iff_eq.mpr e]
    · rw [decide_eq_false (fun z => e (NestedKey.text.inj z)), beq_eq_false_iff_ne.mpr e]
  | tup _ _ _ _ => exact (decide_eq_false (by intro z; cases z)).symm
theorem tell_quiet {u : Value} {c : NestedKey} {stored : List Value} {Q : Bool → Shared → Prop} (hc : NestedIs s.heap c u) (dc : c.depth ≤ 8) (hs : ∀ v ∈ stored, ∃ x, NestedIs s.heap x v ∧ x.depth ≤ 8) (q : Q false s) :
    wpAny (model prog w) A (tableMayTell u stored) Q E s := by
  unfold tableMayTell
  split
  · exact wpAny_pure q
  refine wpAny_bind (quiet_key c u 8 s hc dc A E _ ?_)
  rw [Bool.not_true, if_neg Bool.false_ne_true]
  refine wpAny_bind (wpAny_forIn_list _ (fun more r s1 => s1 = s ∧ r = (none, ()) ∧ ∀ v ∈ more, ∃ x, NestedIs s.heap x v ∧ x.depth ≤ 8) _ ?_ ?_ _ _ ⟨rfl, rfl, hs⟩)
  · rintro v more r s1 ⟨rfl, rfl, hm⟩
    obtain ⟨x, hx, dx⟩ := hm v List.mem_cons_self
    refine wpAny_bind (quiet_key x v 8 s1 hx dx A E _ ?_)
    rw [Bool.not_true, if_neg Bool.false_ne_true]
    exact wpAny_pure ⟨rfl, rfl, fun y hy => hm y (List.mem_cons_of_mem v hy)⟩
  · rintro r s1 ⟨rfl, rfl, -⟩
    exact wpAny_pure q
end
end EvB
end

section
set_option autoImplicit false
set_option Elab.async false
set_option linter.all false
set_option maxRecDepth 100000
set_option maxHeartbeats 1000000
namespace EvB
open PySem PySem.Spec PyProof.Rows L2
open Ev (PV Store Res)
section
variable {prog : Program} {w : World} {A : Around} {E : Value → Shared → Prop} {s : Shared}
abbrev plcs (es : Array DictEntry) (h : Int) : List Nat := placesWithHash es.size (fun i => es[i]?.map (·.hash)) h
/-- the walk among keys of one hash, as the model has it -/
def tailF (d : Addr) (u : Value) (h : Int) (es : Array DictEntry) : Sem (Option Nat) := do
  let ps := plcs es h
  let st := ps.filterMap fun i => es[i]?.map (·.key)
  let tells ← if st == [u] then pure false else tableMayTell u st
  if tells && st.length ≥ 2 then unsupported "dict.find:order-among-keys-of-one-hash"
  let mut hit : Option Nat := none
  for i in ps do
    if let some e := es[i]? then
      if e.hash == h then
        let b4 ← dictEpoch d (keyPart u)
        let same ← eqBool e.key u
        if (← dictEpoch d (keyPart u)) != b4 then unsupported "dict.changed-during-lookup"
        if same then
          if Option.isSome hit then unsupported "dict.find:order-among-keys-of-one-hash"
          rule "dict.find.hit"
          if st.length < 2 then return some i
          hit := some i
        else
          rule "dict.find.same-hash-other-key"
          if tells && !(decide (0 ≤ h) && decide (h < 32)) then unsupported "dict.find:asked-again-or-not-hangs-on-the-table"
  return hit
theorem findIdx_same {α : Type} {p q : α → Bool} : ∀ l : List α, (∀ x ∈ l, p x = q x) → l.findIdx? p = l.findIdx? q
  | [], _ => rfl
  | x :: l, h => by
    rw [List.findIdx?_cons, List.findIdx?_cons, h x List.mem_cons_self, findIdx_same l fun y hy => h y (List.mem_cons_of_mem _ hy)]
theorem mem_plcs {es : Array DictEntry} {rs : List Row} (he : es.toList = rs.map (ent w)) {h : Int} {i : Nat} : i ∈ plcs es h ↔ ∃ r, rs[i]? = some r ∧ r.1.hash w = h := by
  unfold plcs placesWithHash
  rw [List.mem_filter, List.mem_range, ent_size he]
  show i < rs.length ∧ (Option.map (fun x => x.hash) es[i]? == some h) = true ↔ _
  rw [ent_at he]
  cases q : rs[i]? with
  | none =>
    simp
  | some r =>
    obtain ⟨lt, e1⟩ := List.getElem?_eq_some_iff.mp q
    simp [ent, lt]
theorem plcs_nodup (es : Array DictEntry) (h : Int) : (plcs es h).Nodup := by
  unfold plcs placesWithHash
  exact List.Nodup.sublist List.filter_sublist List.nodup_range
theorem find_raw {d : Addr} {o : Obj} {es : Array DictEntry} {ep : Nat} {rs : List Row} {u : Value} {c : NestedKey} {Q : Option Nat → Shared → Prop} (hu : A.units + 8 < cLine) (hc : NestedIs s.heap c u) (dc : c.depth ≤ 8)
    (ho : s.heap.get? d = some o) (hd : o.data = .dict es ep) (he : es.toList = rs.map (ent w)) (ht : Told s.heap rs) (hn : (rs.map (·.1)).Nodup) (q : Q (pl rs c) s) :
    wpAny (model prog w) A (dictFind d u (c.hash w)) Q E s := by
  have told : ∀ v ∈ (plcs es (c.hash w)).filterMap (fun i => es[i]?.map (·.key)), ∃ x, NestedIs s.heap x v ∧ x.depth ≤ 8 := by
    intro v hv
    obtain ⟨i, -, hi⟩ := List.mem_filterMap.mp hv
    rw [ent_at he] at hi
    cases k : rs[i]? with
    | none => rw [k] at hi; cases hi
    | some r =>
      rw [k] at hi
      obtain rfl : r.2.1 = v := Option.some.inj hi
      exact ⟨r.1, ht r (List.mem_of_getElem? k)⟩
  have miss : (∀ i ∈ plcs es (c.hash w), ∀ r, rs[i]? = some r → r.1 ≠ c) → pl rs c = none := fun z => pl_none.mpr fun r m e => by
    obtain ⟨i, hi⟩ := List.getElem?_of_mem m
    exact z i ((mem_plcs he).mpr ⟨r, hi, by rw [e]⟩) r hi e
  have walk : wpAny (model prog w) A (dictWalkPlain d u (c.hash w) es (plcs es (c.hash w))) Q E s := by
    unfold dictWalkPlain
    refine wpAny_bind (wpAny_forIn_list _ (fun more b s1 => s1 = s ∧ b = (none, ()) ∧ ∃ done, done ++ more = plcs es (c.hash w) ∧ ∀ i ∈ done, ∀ r, rs[i]? = some r → r.1 ≠ c) _ ?_ ?_ _ _ ⟨rfl, rfl, [], rfl, fun i hi => absurd hi List.not_mem_nil⟩)
    · rintro i more b s1 ⟨rfl, rfl, done, hp, hno⟩
      obtain ⟨r, hr, hh⟩ := (mem_plcs he).mp (show i ∈ plcs es (c.hash w) by rw [← hp]; simp)
      rw [ent_at he, hr, Option.map_some]
      dsimp only [ent]
      rw [if_pos (by rw [hh]; exact beq_self_eq_true _)]
      have tr := ht r (List.mem_of_getElem? hr)
      refine wpAny_bind (wpAny_dictEpoch ho hd (wpAny_bind (eqK hu tr.1 hc tr.2 (wpAny_bind (wpAny_dictEpoch ho hd ?_)))))
      show wpAny _ _ (if (ep != ep) = true then _ else _) _ E s1
      rw [if_neg (by rw [bne_self_eq_false]; exact Bool.false_ne_true)]
      by_cases k : r.1 = c
      · rw [decide_eq_true k]
        rw [pl_at hn hr k] at q
        exact wpAny_bind (wpAny_rule (wpAny_pure (wpAny_pure q)))
      · rw [decide_eq_false k]
        refine wpAny_bind (wpAny_rule (wpAny_pure ⟨rfl, rfl, done ++ [i], by rw [List.append_assoc]; exact hp, fun j hj r' hr' => ?_⟩))
        rcases List.mem_append.mp hj with hj | hj
        · exact hno j hj r' hr'
        · rw [List.mem_singleton.mp hj, hr] at hr'
          cases hr'
          exact k
    · rintro b s1 ⟨rfl, rfl, done, hp, hno⟩
      rw [List.append_nil] at hp
      rw [hp] at hno
      rw [miss hno] at q
      exact wpAny_pure q
  have found : ∀ t tk, u = .str t tk → wpAny (model prog w) A (foundByValue d u es t) Q E s := by
    intro t tk e
    subst e
    have ec : c = .text t := by cases hc; rfl
    subst ec
    unfold foundByValue
    have e1 : es.findIdx? (fun e => e.key.isStr t) = pl rs (.text t) := by
      rw [show es.findIdx? (fun e => e.key.isStr t) = es.toList.findIdx? fun e => e.key.isStr t by obtain ⟨l⟩ := es; simp, he, List.findIdx?_map]
      exact findIdx_same rs fun r m => isStr_key (ht r m).1
    rw [e1]
    cases k : pl rs (.text t) with
    | none =>
      rw [k] at q
      exact wpAny_pure q
    | some i =>
      rw [k] at q
      obtain ⟨r, hr, er⟩ := pl_some k
      have tr := ht r (List.mem_of_getElem? hr)
      dsimp only
      rw [ent_at he, hr, Option.map_some]
      dsimp only [ent]
      refine wpAny_bind (wpAny_dictEpoch ho hd (wpAny_bind (eqK hu tr.1 hc tr.2 (wpAny_bind (wpAny_dictEpoch ho hd ?_)))))
      show wpAny _ _ (if (ep != ep) = true then _ else _) _ E s
      rw [if_neg (by rw [bne_self_eq_false]; exact Bool.false_ne_true), decide_eq_true er]
      exact wpAny_bind (wpAny_rule (wpAny_pure q))
  have any : ¬ (es.any fun e => e.key == u && e.hash != c.hash w) = true := by
    intro z
    rw [← Array.any_toList, he, List.any_map, List.any_eq_true] at z
    obtain ⟨r, m, e⟩ := z
    obtain ⟨e1, e2⟩ := Bool.and_eq_true_iff.mp e
    have tr := (ht r m).1
    have e3 : r.2.1 = u := by
      simp only [ent, beq_iff_eq] at e1
      exact e1
    rw [e3] at tr
    have := NestedIs.inj _ _ _ tr hc
    simp only [Function.comp, ent, this, bne_self_eq_false] at e2
    cases e2
  unfold dictFind
  try with_reducible refine wpAny_holding ?_
  refine wpAny_bind (wpAny_dictEntries ho hd ?_)
  by_cases hall : (u :: (plcs es (c.hash w)).filterMap (fun i => es[i]?.map (·.key))).all carriedByValue = true
  · rw [if_pos hall]
    dsimp only
    split
    · split
      · exact found _ _ rfl
      · exact walk
    · exact walk
  · rw [if_neg hall]
    have form : (∃ t tk, u = .str t tk) ∨ (∃ a, u = .ref a) ∨ u = .none ∨ (∃ b, u = .bool b) ∨ ∃ i t, u = .int i t := by
      cases hc with
      | none => exact .inr (.inr (.inl rfl))
      | bool _ => exact .inr (.inr (.inr (.inl ⟨_, rfl⟩)))
      | int i t => exact .inr (.inr (.inr (.inr ⟨_, _, rfl⟩)))
      | text x t => exact .inl ⟨_, _, rfl⟩
      | tup _ _ _ _ => exact .inr (.inl ⟨_, rfl⟩)
    have tail : wpAny (model prog w) A (tailF d u (c.hash w) es) Q E s := by
      unfold tailF
      dsimp only
      by_cases hone : ((plcs es (c.hash w)).filterMap (fun i => es[i]?.map (·.key)) == [u]) = true
      all_goals (first | rw [if_pos hone] | rw [if_neg hone])
      all_goals (first | refine wpAny_bind (wpAny_pure ?_) | refine wpAny_bind (tell_quiet hc dc told ?_))
      all_goals (
       rw [if_neg (by simp)]
       refine wpAny_bind (wpAny_forIn_list _ (fun more b s1 => s1 = s ∧ ∃ done hit, b = (none, hit) ∧ done ++ more = plcs es (c.hash w) ∧
         ((hit = none ∧ ∀ i ∈ done, ∀ r, rs[i]? = some r → r.1 ≠ c) ∨ ∃ j, hit = some j ∧ pl rs c = some j ∧ j ∈ done)) _ ?_ ?_ _ _ ⟨rfl, [], none, rfl, rfl, .inl ⟨rfl, fun i hi => absurd hi List.not_mem_nil⟩⟩)
       · rintro i more b s1 ⟨rfl, done, hit, rfl, hp, hH⟩
         obtain ⟨r, hr, hh⟩ := (mem_plcs he).mp (show i ∈ plcs es (c.hash w) by rw [← hp]; simp)
         have np : i ∉ done := by
           have := plcs_nodup es (c.hash w)
           rw [← hp] at this
           exact fun z => (List.nodup_append.mp this).2.2 i z i List.mem_cons_self rfl
         rw [ent_at he, hr, Option.map_some]
         dsimp only [ent]
         rw [if_pos (by rw [hh]; exact beq_self_eq_true _)]
         have tr := ht r (List.mem_of_getElem? hr)
         refine wpAny_bind (wpAny_dictEpoch ho hd (wpAny_bind (eqK hu tr.1 hc tr.2 (wpAny_bind (wpAny_dictEpoch ho hd ?_)))))
         show wpAny _ _ (if (ep != ep) = true then _ else _) _ E s1
         rw [if_neg (by rw [bne_self_eq_false]; exact Bool.false_ne_true)]
         by_cases k : r.1 = c
         · rw [decide_eq_true k]
           have q2 := pl_at hn hr k
           rcases hH with ⟨rfl, hno⟩ | ⟨j, rfl, hj, hm⟩
           · first | rw [if_pos rfl] | skip
             simp only [Option.isSome_none, Bool.false_eq_true, if_false]
             first | refine wpAny_bind (wpAny_pure ?_) | skip
             refine wpAny_bind (wpAny_rule ?_)
             split
             · rw [q2] at q
               exact wpAny_pure (wpAny_pure q)
             · exact wpAny_pure ⟨rfl, done ++ [i], some i, rfl, by rw [List.append_assoc]; exact hp, .inr ⟨i, rfl, q2, by simp⟩⟩
           · rw [q2] at hj
             cases hj
             exact absurd hm np
         · rw [decide_eq_false k]
           simp only [Bool.false_eq_true, if_false]
           have nx : (hit = none ∧ ∀ i' ∈ done ++ [i], ∀ r, rs[i']? = some r → r.1 ≠ c) ∨ ∃ j, hit = some j ∧ pl rs c = some j ∧ j ∈ done ++ [i] := by
             rcases hH with ⟨e, hno⟩ | ⟨j, e, hj, hm⟩
             · refine .inl ⟨e, fun j hj r' hr' => ?_⟩
               rcases List.mem_append.mp hj with hj | hj
               · exact hno j hj r' hr'
               · rw [List.mem_singleton.mp hj, hr] at hr'
                 cases hr'
                 exact k
             · exact .inr ⟨j, e, hj, List.mem_append_left _ hm⟩
           refine wpAny_bind (wpAny_rule ?_)
           first | rw [if_neg (by simp)] | skip
           first
             | exact wpAny_pure ⟨rfl, done ++ [i], hit, rfl, by rw [List.append_assoc]; exact hp, nx⟩
             | exact wpAny_bind (wpAny_pure (wpAny_pure ⟨rfl, done ++ [i], hit, rfl, by rw [List.append_assoc]; exact hp, nx⟩))
       · rintro b s1 ⟨rfl, done, hit, rfl, hp, hH⟩
         rw [List.append_nil] at hp
         rcases hH with ⟨rfl, hno⟩ | ⟨j, rfl, hj, -⟩
         · rw [hp] at hno
           rw [miss hno] at q
           exact wpAny_pure q
         · rw [hj] at q
           exact wpAny_pure q)
    rcases form with ⟨t, tk, rfl⟩ | ⟨a, rfl⟩ | rfl | ⟨b, rfl⟩ | ⟨i, t, rfl⟩ <;> dsimp only
    · by_cases hs : (es.all fun e => isExactStrKey e.key) = true
      · rw [if_pos hs]
        exact found _ _ rfl
      rw [if_neg hs]
      exact tail
    · rw [if_neg any]
      exact tail
    all_goals exact tail
end
end EvB
end

section
set_option autoImplicit false
set_option Elab.async false
set_option linter.all false
set_option maxRecDepth 100000
set_option maxHeartbeats 1000000
namespace EvB
open PySem PySem.Spec PyProof.Rows L2
open Ev (PV Store Res)
theorem modify_map_ent (w : World) (v : Value) : ∀ (rs : List Row) (j : Nat), (rs.map (ent w)).modify j (fun e => { e with val := v }) = (rs.modify j fun r => (r.1, (fun p : Value × Value => (p.1, v)) r.2)).map (ent w)
  | [], j => by cases j <;> rfl
  | r :: rs, 0 => rfl
  | r :: rs, j + 1 => by
    rw [List.map_cons, List.modify_succ_cons, List.modify_succ_cons, List.map_cons, modify_map_ent w v rs j]
section
variable {prog : Program} {w : World} {A : Around} {E : Value → Shared → Prop} {s : Shared} {d : Addr} {rs : List Row} {u : Value} {c : NestedKey} {ep : Nat}
theorem Raw.typeIs {s : Shared} (m : Raw w s.heap d ep rs) : s.TypeIs (.ref d) "dict" := by
  obtain ⟨⟨o, _, ho, hx, _⟩, _⟩ := m
  exact ⟨o, ho, hx.1⟩
theorem Raw.mapRaw {h : Heap} (m : Raw w h d ep rs) : ∃ es, h.DictRaw d es ep ∧ es.toList = rs.map (ent w) := by
  obtain ⟨⟨o, es, ho, hx, hd, he⟩, _⟩ := m
  exact ⟨es, ⟨o, ho, hx, hd⟩, he⟩
theorem get_raw {Q : Option Value → Shared → Prop} (hu : A.units + 8 < cLine) (hc : NestedIs s.heap c u) (dc : c.depth ≤ 8) (m : Raw w s.heap d ep rs) (q : ∀ tk, Q ((getB rs c).map (·.2)) { s with toks := tk }) :
    wpAny (model prog w) A (dictGet d u) Q E s := by
  obtain ⟨⟨o, es, ho, hx, hd, he⟩, ht, hn⟩ := m
  unfold dictGet
  try with_reducible refine wpAny_holding ?_
  refine wpAny_bind (pyHash_key c u A s _ hc (by omega) (wpAny_bind (find_raw (s := { s with toks := s.toks + c.draws }) hu hc dc ho hd he ht hn ?_)))
  have q := q (s.toks + c.draws)
  unfold getB at q
  cases k : pl rs c with
  | none =>
    rw [k] at q
    exact wpAny_pure q
  | some j =>
    rw [k] at q
    refine wpAny_bind (wpAny_dictEntries (s := { s with toks := s.toks + c.draws }) ho hd ?_)
    rw [ent_at he]
    refine wpAny_pure ?_
    rw [Option.map_map, Option.bind_some, Option.map_map] at *
    exact q
theorem set_raw {v : Value} {Q : Unit → Shared → Prop} (hu : A.units + 8 < cLine) (hc : NestedIs s.heap c u) (dc : c.depth ≤ 8) (m : Raw w s.heap d ep rs) (hz : rs.length ≤ sizeLine)
    (q : ∀ h' tk ep', Raw w h' d ep' (putB rs c (fun p => (p.1, v)) (u, v)) → Heap.SameBut d s.heap h' → Q () { s with heap := h', toks := tk }) :
    wpAny (model prog w) A (dictSet d u v) Q E s := by
  obtain ⟨⟨o, es, ho, hx, hd, he⟩, ht, hn⟩ := m
  have hsz : es.size ≤ sizeLine := by rw [ent_size he]; exact hz
  unfold dictSet
  try with_reducible refine wpAny_holding ?_
  refine wpAny_bind (pyHash_key c u A s _ hc (by omega) ?_)
  unfold dictSetHashed
  try with_reducible refine wpAny_holding ?_
  refine wpAny_bind (find_raw (s := { s with toks := s.toks + c.draws }) hu hc dc ho hd he ht hn ?_)
  have nd := nodup_putB hn c (fun p => (p.1, v)) (u, v)
  have tl := told_put (v := v) ht hc dc
  unfold putB at q nd tl
  cases k : pl rs c with
  | none =>
    rw [k] at q nd tl
    refine wpAny_bind (wpAny_rule (wpAny_updateDictKeys (hz := hsz) (s := { s with toks := s.toks + c.draws }) ho hd ?_))
    have sb : Heap.SameBut d s.heap (s.heap.update d (Obj.mapDictKeys (·.push ⟨c.hash w, u, v⟩))) := Heap.SameBut.update ..
    refine q _ _ (ep + 1) ⟨⟨_, _, Heap.get?_update_self _ ho (Obj.isFreed_of_dict (Obj.data_mapDictKeys hd _)), hx.mapDictKeys _, Obj.data_mapDictKeys hd _, ?_⟩, Told.but tl ho hd sb, nd⟩ sb
    rw [Array.toList_push, he, List.map_append]
    rfl
  | some j =>
    rw [k] at q nd tl
    refine wpAny_bind (wpAny_rule (wpAny_bind (wpAny_updateDict (s := { s with toks := s.toks + c.draws }) ho hd (wpAny_point ?_))))
    have sb : Heap.SameBut d s.heap (s.heap.update d (Obj.mapDict (·.modify j fun e => { e with val := v }))) := Heap.SameBut.update ..
    refine q _ _ ep ⟨⟨_, _, Heap.get?_update_self _ ho (Obj.isFreed_of_dict (Obj.data_mapDict hd _)), hx.mapDict _, Obj.data_mapDict hd _, ?_⟩, Told.but tl ho hd sb, nd⟩ sb
    rw [Array.toList_modify, he]
    exact modify_map_ent w v rs j
theorem eraseIdx_map {α β : Type} (f : α → β) : ∀ (l : List α) (j : Nat), (l.map f).eraseIdx j = (l.eraseIdx j).map f
  | [], _ => rfl
  | _ :: _, 0 => rfl
  | x :: l, j + 1 => by rw [List.map_cons, List.eraseIdx_cons_succ, List.eraseIdx_cons_succ, List.map_cons, eraseIdx_map f l j]
theorem take_raw {Q : Option DictEntry → Shared → Prop} {p : Value × Value} (hu : A.units + 8 < cLine) (hc : NestedIs s.heap c u) (dc : c.depth ≤ 8) (m : Raw w s.heap d ep rs) (hz : rs.length ≤ sizeLine) (g : getB rs c = some p)
    (q : ∀ e h' tk ep', e.val = p.2 → Raw w h' d ep' (delB rs c) → Heap.SameBut d s.heap h' → Q (some e) { s with heap := h', toks := tk }) :
    wpAny (model prog w) A (Builtin.Dict.takeOut d u) Q E s := by
  obtain ⟨⟨o, es, ho, hx, hd, he⟩, ht, hn⟩ := m
  have hsz : es.size ≤ sizeLine := by rw [ent_size he]; exact hz
  unfold Builtin.Dict.takeOut
  try with_reducible refine wpAny_holding ?_
  refine wpAny_bind (pyHash_key c u A s _ hc (by omega) ?_)
  refine wpAny_bind (find_raw (s := { s with toks := s.toks + c.draws }) hu hc dc ho hd he ht hn ?_)
  have nd := nodup_delB hn c
  have tl := told_del c ht
  unfold delB at q nd tl
  unfold getB at g
  cases k : pl rs c with
  | none =>
    rw [k] at g
    cases g
  | some j =>
    rw [k] at q nd tl g
    obtain ⟨r, hr, er⟩ := pl_some k
    rw [Option.bind_some, hr] at g
    refine wpAny_bind (wpAny_dictEntries (s := { s with toks := s.toks + c.draws }) ho hd ?_)
    rw [ent_at he, hr]
    refine wpAny_bind (wpAny_updateDictKeys (hz := hsz) (s := { s with toks := s.toks + c.draws }) ho hd (wpAny_pure ?_))
    have sb : Heap.SameBut d s.heap (s.heap.update d (Obj.mapDictKeys (·.eraseIdxIfInBounds j))) := Heap.SameBut.update ..
    refine q _ _ _ (ep + 1) ?_ ⟨⟨_, _, Heap.get?_update_self _ ho (Obj.isFreed_of_dict (Obj.data_mapDictKeys hd _)), hx.mapDictKeys _, Obj.data_mapDictKeys hd _, ?_⟩, Told.but tl ho hd sb, nd⟩ sb
    · have := Option.some.inj g
      rw [← this]
      rfl
    · rw [← eraseIdx_map, ← he]
      obtain ⟨l⟩ := es
      simp
end
end EvB
end

section
set_option autoImplicit false
set_option Elab.async false
set_option linter.all false
set_option maxRecDepth 100000
set_option maxHeartbeats 1000000
namespace EvB
open PySem PySem.Spec PyProof.Rows L2
open Ev (PV Store Res)

/-- the entries and the rows agree -/
abbrev ER : List Ent → List Row → Prop := Paired fun p q => p.1 = q.1 ∧ RelV p.2.1 q.2.1 ∧ RelV p.2.2 q.2.2
theorem ER.keys : ∀ {es : List Ent} {rs : List Row}, ER es rs → es.map (·.1) = rs.map (·.1)
  | _, _, .nil => rfl
  | _, _, .cons h t => by rw [List.map_cons, List.map_cons, h.1, ER.keys t]
theorem pl_keys {β γ : Type} (c : NestedKey) : ∀ {a : List (NestedKey × β)} {b : List (NestedKey × γ)}, a.map (·.1) = b.map (·.1) → pl a c = pl b c
  | [], [], _ => rfl
  | [], _ :: _, h => by simp at h
  | _ :: _, [], h => by simp at h
  | x :: a, y :: b, h => by
    rw [List.map_cons, List.map_cons] at h
    injection h with h1 h2
    unfold pl
    rw [List.findIdx?_cons, List.findIdx?_cons, h1]
    have := pl_keys c h2
    unfold pl at this
    rw [this]
theorem ER.pl {es : List Ent} {rs : List Row} (h : ER es rs) (c : NestedKey) : pl es c = EvB.pl rs c := pl_keys c h.keys
theorem ER.get : ∀ {es : List Ent} {rs : List Row} {j : Nat} {e : Ent}, ER es rs → es[j]? = some e → ∃ r, rs[j]? = some r ∧ e.1 = r.1 ∧ RelV e.2.1 r.2.1 ∧ RelV e.2.2 r.2.2
  | _, _, _, _, .nil, h => by simp at h
  | _, _, 0, e, .cons r t, h => by
    simp at h
    subst h
    exact ⟨_, rfl, r⟩
  | _, _, j + 1, e, .cons r t, h => by
    obtain ⟨q, h1, h2⟩ := ER.get (j := j) t (by simpa using h)
    exact ⟨q, by simpa using h1, h2⟩
theorem ER.modify {y : V} {u : Value} (ry : RelV y u) : ∀ {es : List Ent} {rs : List Row} (j : Nat), ER es rs → ER (es.modify j fun r => (r.1, (fun p : V × V => (p.1, y)) r.2)) (rs.modify j fun r => (r.1, (fun p : Value × Value => (p.1, u)) r.2))
  | _, _, j, .nil => by cases j <;> exact .nil
  | _, _, 0, .cons h t => .cons ⟨h.1, h.2.1, ry⟩ t
  | _, _, j + 1, .cons h t => by
    rw [List.modify_succ_cons, List.modify_succ_cons]
    exact .cons h (ER.modify ry j t)
theorem ER.append : ∀ {es fs : List Ent} {rs ss : List Row}, ER es rs → ER fs ss → ER (es ++ fs) (rs ++ ss)
  | _, _, _, _, .nil, h => h
  | _, _, _, _, .cons r t, h => .cons r (ER.append t h)
theorem ER.erase : ∀ {es : List Ent} {rs : List Row} (j : Nat), ER es rs → ER (es.eraseIdx j) (rs.eraseIdx j)
  | _, _, _, .nil => .nil
  | _, _, 0, .cons _ t => t
  | _, _, j + 1, .cons h t => .cons h (ER.erase j t)
theorem ER.put {es : List Ent} {rs : List Row} {c : NestedKey} {x y : V} {u v : Value} (h : ER es rs) (rx : RelV x u) (ry : RelV y v) : ER (putB es c (fun p => (p.1, y)) (x, y)) (putB rs c (fun p => (p.1, v)) (u, v)) := by
  unfold putB
  rw [h.pl]
  cases EvB.pl rs c with
  | none => exact h.append (.cons ⟨rfl, rx, ry⟩ .nil)
  | some j => exact h.modify ry j
theorem ER.del {es : List Ent} {rs : List Row} (c : NestedKey) (h : ER es rs) : ER (delB es c) (delB rs c) := by
  unfold delB
  rw [h.pl]
  cases EvB.pl rs c with
  | none => exact h
  | some j => exact h.erase j
theorem ER.getB {es : List Ent} {rs : List Row} {c : NestedKey} {p : V × V} (h : ER es rs) (e : EvB.getB es c = some p) : ∃ q, EvB.getB rs c = some q ∧ RelV p.1 q.1 ∧ RelV p.2 q.2 := by
  unfold EvB.getB at e ⊢
  rw [h.pl] at e
  cases k : EvB.pl rs c with
  | none =>
    rw [k] at e
    cases e
  | some j =>
    rw [k, Option.bind_some] at e
    cases k2 : es[j]? with
    | none =>
      rw [k2] at e
      cases e
    | some f =>
      rw [k2] at e
      obtain rfl : f.2 = p := Option.some.inj e
      obtain ⟨r, h1, h2, h3, h4⟩ := h.get k2
      exact ⟨r.2, by rw [Option.bind_some, h1]; rfl, h3, h4⟩
theorem ER.getB_none {es : List Ent} {rs : List Row} {c : NestedKey} (h : ER es rs) (e : EvB.getB es c = none) : EvB.getB rs c = none := by
  unfold EvB.getB at e ⊢
  rw [h.pl] at e
  cases k : EvB.pl rs c with
  | none => rfl
  | some j =>
    exfalso
    obtain ⟨f, hf, -⟩ := pl_some (rs := es) (c := c) (j := j) (by rw [h.pl]; exact k)
    rw [k, Option.bind_some, hf] at e
    cases e
theorem ER.of : ∀ {es : List Ent} {ds : List DictEntry} {w : World}, Paired (fun (p : Ent) (e : DictEntry) => e.hash = p.1.hash w ∧ RelV p.2.1 e.key ∧ RelV p.2.2 e.val) es ds → ∃ rs : List Row, ER es rs ∧ ds = rs.map (ent w)
  | _, _, _, .nil => ⟨[], .nil, rfl⟩
  | _, _, w, .cons (a := p) (b := e) h t => by
    obtain ⟨rs, h1, h2⟩ := ER.of t
    refine ⟨(p.1, e.key, e.val) :: rs, .cons ⟨rfl, h.2.1, h.2.2⟩ h1, ?_⟩
    rw [List.map_cons, ← h2]
    show e :: _ = _
    congr 1
    obtain ⟨a, b, c⟩ := e
    have := h.1
    simp only at this
    rw [this]
    rfl
theorem ER.back {w : World} : ∀ {es : List Ent} {rs : List Row}, ER es rs → Paired (fun (p : Ent) (e : DictEntry) => e.hash = p.1.hash w ∧ RelV p.2.1 e.key ∧ RelV p.2.2 e.val) es (rs.map (ent w))
  | _, _, .nil => .nil
  | _, _, .cons h t => by
    rw [List.map_cons]
    exact .cons ⟨by rw [h.1]; rfl, h.2.1, h.2.2⟩ (ER.back t)

/-! ### keys -/
theorem toK_depth : ∀ d : PV, d.keyable = true → (toK d).depth = d.depth := by
  have key : ∀ n : Nat, (∀ d : PV, sizeOf d ≤ n → d.keyable = true → (toK d).depth = d.depth) ∧ (∀ d : List PV, sizeOf d ≤ n → Ev.PV.keyableL d = true → NestedKey.depthAll (toKs d) = Ev.PV.depthL d) := by
    intro n
    induction n with
    | zero => exact ⟨fun d h => by cases d <;> simp at h, fun d h => by cases d <;> simp at h⟩
    | succ n ih =>
      refine ⟨fun d h k => ?_, fun d h k => ?_⟩
      · cases d with
        | tup l =>
          simp only [toK, NestedKey.depth, Ev.PV.depth]
          rw [ih.2 l (by simp at h; omega) (by simpa [Ev.PV.keyable] using k)]
        | _ => first | rfl | simp [Ev.PV.keyable] at k
      · cases d with
        | nil => rfl
        | cons x xs =>
          simp only [Ev.PV.keyableL, Bool.and_eq_true] at k
          simp only [toKs, NestedKey.depthAll, Ev.PV.depthL]
          rw [ih.1 x (by simp at h; omega) k.1, ih.2 xs (by simp at h; omega) k.2]
  exact fun d => (key _).1 d (Nat.le_refl _)
theorem b2i_if (b : Bool) : Ev.PV.b2i b = if b = true then 1 else 0 := rfl
mutual
theorem toK_eqv : ∀ a b : PV, a.keyable = true → b.keyable = true → a.eqv b = decide (toK a = toK b)
  | .non, b, _, h => by
    cases b with
    | non => rfl
    | bl _ => exact (decide_eq_false (by intro z; cases z)).symm
    | int _ => exact (decide_eq_false (by intro z; cases z)).symm
    | str _ => exact (decide_eq_false (by intro z; cases z)).symm
    | tup _ => exact (decide_eq_false (by intro z; cases z)).symm
    | _ => simp [Ev.PV.keyable] at h
  | .bl x, b, _, h => by
    cases b with
    | non => exact (decide_eq_false (by intro z; cases z)).symm
    | bl y => simp only [Ev.PV.eqv, toK, NestedKey.num.injEq]; cases x <;> cases y <;> decide
    | int y =>
      simp only [Ev.PV.eqv, toK, NestedKey.num.injEq]
      by_cases e : Ev.PV.b2i x = y
      · simp [e]
      · simp [e]
    | str _ => exact (decide_eq_false (by intro z; cases z)).symm
    | tup _ => exact (decide_eq_false (by intro z; cases z)).symm
    | _ => simp [Ev.PV.keyable] at h
  | .int x, b, _, h => by
    cases b with
    | non => exact (decide_eq_false (by intro z; cases z)).symm
    | bl y =>
      simp only [Ev.PV.eqv, toK, NestedKey.num.injEq]
      by_cases e : x = Ev.PV.b2i y
      · simp [e]
      · simp [e]
    | int y =>
      simp only [Ev.PV.eqv, toK, NestedKey.num.injEq]
      by_cases e : x = y
      · simp [e]
      · simp [e]
    | str _ => exact (decide_eq_false (by intro z; cases z)).symm
    | tup _ => exact (decide_eq_false (by intro z; cases z)).symm
    | _ => simp [Ev.PV.keyable] at h
  | .str x, b, _, h => by
    cases b with
    | non => exact (decide_eq_false (by intro z; cases z)).symm
    | bl _ => exact (decide_eq_false (by intro z; cases z)).symm
    | int _ => exact (decide_eq_false (by intro z; cases z)).symm
    | str y =>
      simp only [Ev.PV.eqv, toK, NestedKey.text.injEq, toS_inj]
      by_cases e : x = y
      · simp [e]
      · simp [e]
    | tup _ => exact (decide_eq_false (by intro z; cases z)).symm
    | _ => simp [Ev.PV.keyable] at h
  | .tup x, b, k, h => by
    cases b with
    | non => exact (decide_eq_false (by intro z; cases z)).symm
    | bl _ => exact (decide_eq_false (by intro z; cases z)).symm
    | int _ => exact (decide_eq_false (by intro z; cases z)).symm
    | str _ => exact (decide_eq_false (by intro z; cases z)).symm
    | tup y =>
      simp only [Ev.PV.eqv, toK, NestedKey.tup.injEq]
      exact toKs_eqv x y (by simpa [Ev.PV.keyable] using k) (by simpa [Ev.PV.keyable] using h)
    | _ => simp [Ev.PV.keyable] at h
  | .lst _, _, k, _ => by simp [Ev.PV.keyable] at k
  | .dct _, _, k, _ => by simp [Ev.PV.keyable] at k
  | .cel _, _, k, _ => by simp [Ev.PV.keyable] at k
  | .scr _, _, k, _ => by simp [Ev.PV.keyable] at k
theorem toKs_eqv : ∀ a b : List PV, Ev.PV.keyableL a = true → Ev.PV.keyableL b = true → Ev.PV.eqvL a b = decide (toKs a = toKs b)
  | [], [], _, _ => rfl
  | [], _ :: _, _, _ => (decide_eq_false (by simp only [toKs]; intro z; cases z)).symm
  | _ :: _, [], _, _ => (decide_eq_false (by simp only [toKs]; intro z; cases z)).symm
  | x :: xs, y :: ys, h, k => by
    simp only [Ev.PV.keyableL, Bool.and_eq_true] at h k
    simp only [Ev.PV.eqvL, toKs, toK_eqv x y h.1 k.1, toKs_eqv xs ys h.2 k.2, List.cons.injEq]
    by_cases e1 : toK x = toK y <;> by_cases e2 : toKs xs = toKs ys <;> simp [e1, e2]
end
theorem isKey_and {k : PV} (h : k.isKey = true) : k.keyable = true ∧ k.depth ≤ 8 := by
  obtain ⟨a, b⟩ := Bool.and_eq_true_iff.mp h
  exact ⟨a, of_decide_eq_true b⟩
section
variable {X : Cx} {pins : List (Addr × Obj)} {σ : L2.St} {H : Hp} {s : Shared} {al : List Addr} {P : Addr → Prop}
theorem key_is (I : Inv X pins σ H s) : ∀ n : Nat, (∀ (k : PV) (x : V) (u : Value), sizeOf k ≤ n → k.keyable = true → Rz X.w X.K al H P x k → RelV x u → NestedIs s.heap (toK k) u) ∧
    (∀ (ks : List PV) (xs : List V) (us : List Value), sizeOf ks ≤ n → Ev.PV.keyableL ks = true → RzL X.w X.K al H P xs ks → Vals xs us → NestedAll s.heap (toKs ks) us) := by
  intro n
  induction n with
  | zero => exact ⟨fun k _ _ h => by cases k <;> simp at h, fun k _ _ h => by cases k <;> simp at h⟩
  | succ n ih =>
    refine ⟨fun k x u hn hk r ru => ?_, fun ks xs us hn hk r ru => ?_⟩
    · cases r with
      | non => cases ru; exact .none
      | bl b => cases ru; exact .bool rfl
      | int i => obtain ⟨t, rfl⟩ := ru; exact .int i t
      | str y _ => obtain ⟨t, rfl⟩ := ru; exact .text _ t
      | tup h1 h2 =>
        cases ru
        obtain ⟨its, rv, ht, _⟩ := I.tuple h1
        obtain ⟨o, ho, hc, m, hd⟩ := ht
        exact .tup ho hc hd (by simpa using ih.2 _ _ its (by simp at hn; omega) (by simpa [Ev.PV.keyable] using hk) h2 rv)
      | lst _ _ _ => simp [Ev.PV.keyable] at hk
      | scr _ => simp [Ev.PV.keyable] at hk
      | dct _ _ _ => simp [Ev.PV.keyable] at hk
      | cel _ => simp [Ev.PV.keyable] at hk
    · cases r with
      | nil => cases ru; exact .nil
      | cons h1 h2 =>
        simp only [Ev.PV.keyableL, Bool.and_eq_true] at hk
        cases ru with
        | cons r1 r2 =>
          simp only [toKs]
          exact .cons (ih.1 _ _ _ (by simp at hn; omega) hk.1 h1 r1) (ih.2 _ _ _ (by simp at hn; omega) hk.2 h2 r2)
theorem key_at (I : Inv X pins σ H s) {k : PV} {x : V} {u : Value} (hk : k.isKey = true) (r : Rz X.w X.K al H P x k) (ru : RelV x u) : NestedIs s.heap (toK k) u ∧ (toK k).depth ≤ 8 := by
  obtain ⟨h1, h2⟩ := isKey_and hk
  exact ⟨(key_is I (sizeOf k)).1 k x u (Nat.le_refl _) h1 r ru, by rw [toK_depth k h1]; exact h2⟩
theorem told_of (I : Inv X pins σ H s) : ∀ {es : List Ent} {ds : List (PV × PV)} {rs : List Row}, RzD X.w X.K al H P es ds → ER es rs → Told s.heap rs
  | _, _, _, .nil, .nil => fun r m => absurd m List.not_mem_nil
  | _, _, _, .cons h1 h2 h3 h4 _ t, .cons r q => fun z m => by
    rcases List.mem_cons.mp m with e | m
    · rw [e, ← r.1, h1]
      exact key_at I (by simp [Ev.PV.isKey, h2, h3]) h4 r.2.1
    · exact told_of I t q z m
theorem dct_raw (I : Inv X pins σ H s) {a : Addr} {ep : Nat} {es : List Ent} {ds : List (PV × PV)} (e : H a = some (DctO X.w a ep es)) (r : RzD X.w X.K al H P es ds) :
    es.length ≤ sizeLine ∧ (a == sysModules) = false ∧ ∃ rs, Raw X.w s.heap a ep rs ∧ ER es rs := by
  obtain ⟨⟨z, hd, nd, o, es', ho, hx, hdat, pr⟩, _, _⟩ := I.hok a _ e
  obtain ⟨rs, er, ee⟩ := ER.of pr
  exact ⟨z, hd, rs, ⟨⟨o, es', ho, hx, hdat, ee⟩, told_of I r er, by rw [← er.keys]; exact nd⟩, er⟩
theorem dct_ok {H' : Hp} {h' : Heap} {a : Addr} {ep : Nat} {es : List Ent} {rs : List Row} (z : es.length ≤ sizeLine) (hd : (a == sysModules) = false) (m : Raw X.w h' a ep rs) (er : ER es rs) : ObjOk X.prog X.w H' h' a (DctO X.w a ep es) := by
  obtain ⟨⟨o, es', ho, hx, hdat, ee⟩, _, nd⟩ := m
  refine ⟨⟨z, hd, by rw [er.keys]; exact nd, o, es', ho, hx, hdat, by rw [ee]; exact er.back⟩, ⟨o, ho⟩, ?_⟩
  rintro h1 h2 ⟨z, hd, nd, o, es', ho, r⟩ k
  exact ⟨z, hd, nd, o, es', k _ ho, r⟩
theorem dct_write {a : Addr} {ep ep' : Nat} {h' : Heap} {tk : Nat} {es fs : List Ent} {rs : List Row} (I : Inv X pins σ H s) (e : H a = some (DctO X.w a ep es)) (z : fs.length ≤ sizeLine) (hd : (a == sysModules) = false) (m : Raw X.w h' a ep' rs) (er : ER fs rs) (sb : Heap.SameBut a s.heap h') :
    Inv X pins σ (upd H a (DctO X.w a ep' fs)) { s with heap := h', toks := tk } := by
  have he : ∃ q, h'.get? a = some q := let ⟨⟨o, _, ho, _⟩, _⟩ := m; ⟨o, ho⟩
  exact I.write (x := a) (e := a) (by rw [e]; exact True.intro) (.inl rfl) (fun b q hb k => (sb.2 b hb).trans k) he (dct_ok z hd m er)
end

/-! ### what the plain dict functions do to the entries -/
section
variable {w : World} {K : PySem.W.Frag} {al : List Addr} {H : Hp} {P : Addr → Prop}
theorem rzd_get {k : PV} (hk : k.keyable = true) : ∀ {es : List Ent} {ds : List (PV × PV)}, RzD w K al H P es ds → match Ev.dGet ds k with
    | some v => ∃ p, getB es (toK k) = some p ∧ Rz w K al H P p.2 v
    | none => getB es (toK k) = none
  | _, _, .nil => rfl
  | _, _, .cons (e := e) (es := es) (k := k0) (v := v0) (ds := ds) h1 h2 h3 h4 h5 t => by
    have ih := rzd_get hk t
    unfold Ev.dGet at ih ⊢
    rw [List.find?_cons, toK_eqv k0 k h2 hk, ← h1]
    by_cases c : e.1 = toK k
    · rw [decide_eq_true c]
      refine ⟨e.2, ?_, h5⟩
      unfold getB pl
      rw [List.findIdx?_cons, decide_eq_true c]
      rfl
    · rw [decide_eq_false c]
      have e2 : getB (e :: es) (toK k) = getB es (toK k) := by
        unfold getB pl
        rw [List.findIdx?_cons, decide_eq_false c]
        cases es.findIdx? fun r => decide (r.1 = toK k) <;> rfl
      rw [e2]
      exact ih
theorem rzd_some {k : PV} (hk : k.keyable = true) {es : List Ent} {ds : List (PV × PV)} (r : RzD w K al H P es ds) {v : PV} (e : Ev.dGet ds k = some v) : ∃ p, getB es (toK k) = some p ∧ Rz w K al H P p.2 v := by
  have := rzd_get hk r
  rw [e] at this
  exact this
theorem rzd_none {k : PV} (hk : k.keyable = true) {es : List Ent} {ds : List (PV × PV)} (r : RzD w K al H P es ds) (e : Ev.dGet ds k = none) : getB es (toK k) = none := by
  have := rzd_get hk r
  rw [e] at this
  exact this
theorem dHas_get (k : PV) : ∀ ds : List (PV × PV), Ev.dHas ds k = (Ev.dGet ds k).isSome
  | [] => rfl
  | kv :: ds => by
    have ih := dHas_get k ds
    unfold Ev.dHas Ev.dGet at ih ⊢
    rw [List.any_cons, List.find?_cons, ih]
    cases kv.1.eqv k <;> rfl
theorem rzd_keys_ne {k : PV} (hk : k.keyable = true) : ∀ {es : List Ent} {ds : List (PV × PV)}, RzD w K al H P es ds → (∀ e ∈ es, e.1 ≠ toK k) → ∀ kv ∈ ds, kv.1.eqv k = false
  | _, _, .nil, _, kv, m => absurd m List.not_mem_nil
  | _, _, .cons h1 h2 h3 h4 h5 t, hn, kv, m => by
    rcases List.mem_cons.mp m with e | m
    · rw [e, toK_eqv _ k h2 hk, ← h1]
      exact decide_eq_false (hn _ List.mem_cons_self)
    · exact rzd_keys_ne hk t (fun e he => hn e (List.mem_cons_of_mem _ he)) kv m
theorem rzd_snoc {x y : V} {k v : PV} (h2 : k.keyable = true) (h3 : k.depth ≤ 8) (rx : Rz w K al H P x k) (ry : Rz w K al H P y v) : ∀ {es : List Ent} {ds : List (PV × PV)}, RzD w K al H P es ds → RzD w K al H P (es ++ [(toK k, x, y)]) (ds ++ [(k, v)])
  | _, _, .nil => .cons rfl h2 h3 rx ry .nil
  | _, _, .cons a b c d e t => .cons a b c d e (rzd_snoc h2 h3 rx ry t)
theorem map_none {k v : PV} : ∀ {ds : List (PV × PV)}, (∀ kv ∈ ds, kv.1.eqv k = false) → (ds.map fun kv => if kv.1.eqv k = true then (kv.1, v) else kv) = ds
  | [], _ => rfl
  | kv :: ds, h => by
    rw [List.map_cons, map_none fun z m => h z (List.mem_cons_of_mem _ m), if_neg (by rw [h kv List.mem_cons_self]; exact Bool.false_ne_true)]
theorem rzd_mod {y : V} {k v : PV} (hk : k.keyable = true) (ry : Rz w K al H P y v) : ∀ {es : List Ent} {ds : List (PV × PV)} {j : Nat}, RzD w K al H P es ds → (es.map (·.1)).Nodup → pl es (toK k) = some j →
    RzD w K al H P (es.modify j fun r => (r.1, (fun p : V × V => (p.1, y)) r.2)) (ds.map fun kv => if kv.1.eqv k = true then (kv.1, v) else kv)
  | _, _, _, .nil, _, h => by cases h
  | _, _, j, .cons (e := e) (es := es) (k := k0) (v := v0) (ds := ds) h1 h2 h3 h4 h5 t, nd, h => by
    unfold pl at h
    rw [List.findIdx?_cons] at h
    rw [List.map_cons, List.nodup_cons] at nd
    rw [List.map_cons, toK_eqv k0 k h2 hk, ← h1]
    by_cases c : e.1 = toK k
    · rw [decide_eq_true c, if_pos rfl] at h
      obtain rfl : 0 = j := Option.some.inj h
      rw [decide_eq_true c, if_pos rfl, map_none (rzd_keys_ne hk t fun f hf z => nd.1 (by rw [c, ← z]; exact List.mem_map_of_mem hf))]
      exact .cons h1 h2 h3 h4 ry t
    · rw [decide_eq_false c, if_neg Bool.false_ne_true] at h
      rw [decide_eq_false c, if_neg Bool.false_ne_true]
      obtain ⟨i, hi, rfl⟩ := Option.map_eq_some_iff.mp h
      rw [List.modify_succ_cons]
      exact .cons h1 h2 h3 h4 h5 (rzd_mod hk ry t nd.2 hi)
theorem rzd_put {x y : V} {k v : PV} {es : List Ent} {ds : List (PV × PV)} (r : RzD w K al H P es ds) (nd : (es.map (·.1)).Nodup) (hk : k.isKey = true) (rx : Rz w K al H P x k) (ry : Rz w K al H P y v) :
    RzD w K al H P (putB es (toK k) (fun p => (p.1, y)) (x, y)) (Ev.dPut ds k v) := by
  obtain ⟨h2, h3⟩ := isKey_and hk
  unfold Ev.dPut putB
  rw [dHas_get]
  cases g : Ev.dGet ds k with
  | none =>
    have := rzd_none h2 r g
    have e2 : pl es (toK k) = none := by
      cases q : pl es (toK k) with
      | none => rfl
      | some j =>
        obtain ⟨f, hf, _⟩ := pl_some q
        unfold getB at this
        rw [q, Option.bind_some, hf] at this
        cases this
    rw [e2]
    exact rzd_snoc h2 h3 rx ry r
  | some z =>
    obtain ⟨p, hp, _⟩ := rzd_some h2 r g
    unfold getB at hp
    obtain ⟨j, hj, _⟩ := Option.bind_eq_some_iff.mp hp
    rw [hj]
    exact rzd_mod h2 ry r nd hj
theorem filter_all {α : Type} {p : α → Bool} : ∀ {l : List α}, (∀ x ∈ l, p x = true) → l.filter p = l := fun h => List.filter_eq_self.mpr h
theorem rzd_del {k : PV} (hk : k.keyable = true) : ∀ {es : List Ent} {ds : List (PV × PV)}, RzD w K al H P es ds → (es.map (·.1)).Nodup → RzD w K al H P (delB es (toK k)) (Ev.dDel ds k)
  | _, _, .nil, _ => .nil
  | _, _, .cons (e := e) (es := es) (k := k0) (v := v0) (ds := ds) h1 h2 h3 h4 h5 t, nd => by
    rw [List.map_cons, List.nodup_cons] at nd
    have ih := rzd_del hk t nd.2
    unfold delB pl Ev.dDel at ih ⊢
    rw [List.findIdx?_cons, List.filter_cons, toK_eqv k0 k h2 hk, ← h1]
    by_cases c : e.1 = toK k
    · rw [decide_eq_true c, if_pos rfl, Bool.not_true, if_neg Bool.false_ne_true]
      rw [filter_all fun kv m => by rw [rzd_keys_ne hk t (fun f hf z => nd.1 (by rw [c, ← z]; exact List.mem_map_of_mem hf)) kv m]; rfl]
      exact t
    · rw [decide_eq_false c, if_neg Bool.false_ne_true, Bool.not_false, if_pos rfl]
      cases q : es.findIdx? fun r => decide (r.1 = toK k) with
      | none =>
        rw [q] at ih
        exact .cons h1 h2 h3 h4 h5 ih
      | some j =>
        rw [q] at ih
        exact .cons h1 h2 h3 h4 h5 ih
end
end EvB
end

section
set_option autoImplicit false
set_option Elab.async false
set_option linter.all false
set_option maxRecDepth 100000
set_option maxHeartbeats 1000000
namespace EvB
open PySem PySem.Spec PyProof.Rows L2
open Ev (PV Store Res)
section
variable {prog : Program} {w : World} {A : Around} {E : Value → Shared → Prop} {s : Shared} {d : Addr} {rs : List Row} {u : Value} {c : NestedKey} {ep : Nat}
theorem item_raw {p : Value × Value} {Q : Value → Shared → Prop} (hu : A.units + 64 < cLine) (hc : NestedIs s.heap c u) (dc : c.depth ≤ 8) (m : Raw w s.heap d ep rs) (g : getB rs c = some p) (q : ∀ tk, Q p.2 { s with toks := tk }) :
    wpAny (model prog w) A (getItem (.ref d) u) Q E s := by
  unfold getItem
  try with_reducible refine wpAny_holding ?_
  refine wpAny_bind (wpAny_sequenceKey m.typeIs (by decide) ?_)
  refine wpAny_bind (wpAny_callSpecial?_slot (name := Str.ofString "__getitem__") m.typeIs slot_dict_getitem
    (wpAny_call_entry slot_dict_getitem m.typeIs entry_dict_getitem ?_ (args_dict_getitem _ _)))
  show wpAny _ _ (dictGet d u >>= _) _ _ s
  refine wpAny_bind (get_raw (A := A.in1) (by show A.units + 1 + 8 < cLine; omega) hc dc m fun tk => ?_)
  rw [g]
  exact wpAny_pure ⟨p.2, rfl, wpAny_pure (q tk)⟩
theorem has_raw {Q : Bool → Shared → Prop} (hu : A.units + 64 < cLine) (hc : NestedIs s.heap c u) (dc : c.depth ≤ 8) (hd : (d == sysModules) = false) (m : Raw w s.heap d ep rs) (q : ∀ tk, Q (getB rs c).isSome { s with toks := tk }) :
    wpAny (model prog w) A (contains (.ref d) u) Q E s := by
  unfold contains
  try with_reducible refine wpAny_holding ?_
  refine wpAny_bind (wpAny_specialOf m.typeIs slot_dict_contains.lookup ?_)
  show wpAny _ _ (if (some (Value.builtin "dict.__contains__") == some Value.none) = true then _ else _) _ E s
  rw [if_neg (by rw [beq_builtin_none]; exact Bool.false_ne_true)]
  refine wpAny_bind (wpAny_callSpecialUnlessNone?_slot (name := Str.ofString "__contains__") m.typeIs slot_dict_contains
    (wpAny_call_entry slot_dict_contains m.typeIs entry_dict_contains ?_ (args_dict_contains _ _)))
  show wpAny _ _ (dictGet d u >>= _) _ _ s
  refine wpAny_bind (get_raw (A := A.in1) (by show A.units + 1 + 8 < cLine; omega) hc dc m fun tk => ?_)
  have q := q tk
  cases g : getB rs c with
  | some p =>
    rw [g] at q
    show wpAny _ _ (ret (.bool true)) _ _ _
    exact wpAny_pure ⟨_, rfl, wpAny_truthy_bool q⟩
  | none =>
    rw [g] at q
    show wpAny _ _ (Builtin.Dict.pendingKey? d u >>= _) _ _ _
    exact wpAny_bind (wpAny_pendingKey_other hd (wpAny_pure ⟨_, rfl, wpAny_truthy_bool q⟩))
theorem put_raw {v : Value} {Q : Unit → Shared → Prop} (hu : A.units + 64 < cLine) (hc : NestedIs s.heap c u) (dc : c.depth ≤ 8) (m : Raw w s.heap d ep rs) (hz : rs.length ≤ sizeLine)
    (q : ∀ h' tk ep', Raw w h' d ep' (putB rs c (fun p => (p.1, v)) (u, v)) → Heap.SameBut d s.heap h' → Q () { s with heap := h', toks := tk }) :
    wpAny (model prog w) A (setItem (.ref d) u v) Q E s := by
  unfold setItem
  try with_reducible refine wpAny_holding ?_
  refine wpAny_bind (wpAny_sequenceKey m.typeIs (by decide) ?_)
  refine wpAny_bind (wpAny_callSpecial?_slot (name := Str.ofString "__setitem__") m.typeIs slot_dict_setitem
    (wpAny_call_entry slot_dict_setitem m.typeIs entry_dict_setitem ?_ (args_dict_setitem _ _ _)))
  show wpAny _ _ (Builtin.Dict.notOrdered "__setitem__" ⟨[.ref d, u, v], []⟩ >>= _) _ _ s
  refine wpAny_bind (wpAny_notOrdered_dict m.typeIs ?_)
  show wpAny _ _ (dictSet d u v >>= _) _ _ s
  exact wpAny_bind (set_raw (A := A.in1) (by show A.units + 1 + 8 < cLine; omega) hc dc m hz fun h' tk ep' m' sb => wpAny_pure ⟨.none, rfl, wpAny_pure (q h' tk ep' m' sb)⟩)
/-- d.get(k), d.get(k, x) -/
theorem getm_raw {more : List Value} {dflt : Value} {Q : Value → Shared → Prop} (hm : (more = [] ∧ dflt = .none) ∨ more = [dflt]) (hu : A.units + 64 < cLine) (hc : NestedIs s.heap c u) (dc : c.depth ≤ 8) (hd : (d == sysModules) = false) (m : Raw w s.heap d ep rs)
    (q : ∀ tk, Q (((getB rs c).map (·.2)).getD dflt) { s with toks := tk }) : wpAny (model prog w) A (call (.builtin "dict.get") (.ref d :: u :: more)) Q E s := by
  rcases hm with ⟨rfl, rfl⟩ | rfl
  · refine call_meetsIn F.slot_dict_get m.typeIs F.entry_dict_get (F.args_dict_get_2 _ _) (show MeetsIn prog w (Builtin.«dict.get» ⟨[.ref d, u], []⟩) (fun A R s => A.units + 16 < cLine ∧ NestedIs s.heap c u ∧ Raw w s.heap d ep rs ∧ ∀ tk, R (.ok (.ret (((getB rs c).map (·.2)).getD .none))) { s with toks := tk }) from .of_wp fun A R s ⟨hu, hc, m, q⟩ => ?_) ⟨by omega, hc, m, q⟩
    show wpAny _ _ (dictGet d u >>= _) _ _ s
    refine wpAny_bind (get_raw (A := A.in1) (by show A.units + 1 + 8 < cLine; omega) hc dc m fun tk => ?_)
    have q := q tk
    cases g : (getB rs c).map (·.2) with
    | some v =>
      rw [g] at q
      exact wpAny_pure ⟨v, rfl, q⟩
    | none =>
      rw [g] at q
      show wpAny _ _ (Builtin.Dict.missed d u >>= _) _ _ _
      exact wpAny_bind (wpAny_missed_other hd (wpAny_pure ⟨.none, rfl, q⟩))
  · refine call_meetsIn F.slot_dict_get m.typeIs F.entry_dict_get (F.args_dict_get_3 _ _ _) (show MeetsIn prog w (Builtin.«dict.get» ⟨[.ref d, u, dflt], []⟩) (fun A R s => A.units + 16 < cLine ∧ NestedIs s.heap c u ∧ Raw w s.heap d ep rs ∧ ∀ tk, R (.ok (.ret (((getB rs c).map (·.2)).getD dflt))) { s with toks := tk }) from .of_wp fun A R s ⟨hu, hc, m, q⟩ => ?_) ⟨by omega, hc, m, q⟩
    show wpAny _ _ (dictGet d u >>= _) _ _ s
    refine wpAny_bind (get_raw (A := A.in1) (by show A.units + 1 + 8 < cLine; omega) hc dc m fun tk => ?_)
    have q := q tk
    cases g : (getB rs c).map (·.2) with
    | some v =>
      rw [g] at q
      exact wpAny_pure ⟨v, rfl, q⟩
    | none =>
      rw [g] at q
      show wpAny _ _ (Builtin.Dict.missed d u >>= _) _ _ _
      exact wpAny_bind (wpAny_missed_other hd (wpAny_pure ⟨dflt, rfl, q⟩))
theorem keyPart_none (v : Value) : True := trivial
/-- d.pop(k), the key there -/
theorem pop_raw {p : Value × Value} {Q : Value → Shared → Prop} (hu : A.units + 64 < cLine) (hc : NestedIs s.heap c u) (dc : c.depth ≤ 8) (m : Raw w s.heap d ep rs) (hz : rs.length ≤ sizeLine) (g : getB rs c = some p)
    (q : ∀ h' tk ep', Raw w h' d ep' (delB rs c) → Heap.SameBut d s.heap h' → Q p.2 { s with heap := h', toks := tk }) : wpAny (model prog w) A (call (.builtin "dict.pop") [.ref d, u]) Q E s := by
  refine call_meetsIn F.slot_dict_pop m.typeIs F.entry_dict_pop (F.args_dict_pop_2 _ _) (show MeetsIn prog w (Builtin.«dict.pop» ⟨[.ref d, u], []⟩) (fun A R s => A.units + 16 < cLine ∧ NestedIs s.heap c u ∧ Raw w s.heap d ep rs ∧ ∀ h' tk ep', Raw w h' d ep' (delB rs c) → Heap.SameBut d s.heap h' → R (.ok (.ret p.2)) { s with heap := h', toks := tk }) from .of_wp fun A R s ⟨hu, hc, m, q⟩ => ?_) ⟨by omega, hc, m, q⟩
  obtain ⟨⟨o, es, ho, hx, hdat, he⟩, ht, hn⟩ := id m
  unfold Builtin.«dict.pop»
  refine wpAny_bind ?_
  unfold Builtin.Dict.keyAndDefault
  refine wpAny_bind (wpAny_notOrdered_dict m.typeIs ?_)
  show wpAny _ _ (pure (d, u, none)) _ _ s
  refine wpAny_pure ?_
  have ne : ¬ es.isEmpty = true := by
    intro z
    have : es.size = 0 := by simpa using z
    rw [ent_size he] at this
    have : rs = [] := List.length_eq_zero_iff.mp this
    rw [this] at g
    cases g
  have fin : wpAny (model prog w) A.in1 (Builtin.Dict.takeOut d u) (fun r s' => r.isSome = true ∧ ∃ e, r = some e ∧ e.val = p.2 ∧ ∃ h' tk, s' = { s with heap := h', toks := tk } ∧ R (.ok (.ret p.2)) s') (fun v s' => R (.error v) s') s := by
    refine take_raw (A := A.in1) (by show A.units + 1 + 8 < cLine; omega) hc dc m hz g fun e h' tk ep' he m' sb => ⟨rfl, e, rfl, he, h', tk, rfl, q h' tk ep' m' sb⟩
  cases kp : (keyPart u).isSome with
  | true =>
    dsimp only
    simp only [kp, if_true]
    refine wpAny_bind (wpAny_pure ?_)
    rw [if_neg Bool.false_ne_true]
    refine wpAny_bind (wpAny_mono fin (fun r s' ⟨_, e, er, ev, h', tk, es', q'⟩ => ?_) fun _ _ z => z)
    subst er
    simp only [Option.isNone_some, Bool.false_eq_true, if_false]
    exact wpAny_bind (wpAny_letGo (wpAny_pure ⟨e.val, rfl, by rw [ev]; exact q'⟩))
  | false =>
    dsimp only
    simp only [kp, Bool.false_eq_true, if_false]
    refine wpAny_bind (wpAny_dictEntries ho hdat (wpAny_bind (wpAny_pure ?_)))
    rw [if_neg ne]
    refine wpAny_bind (wpAny_mono fin (fun r s' ⟨_, e, er, ev, h', tk, es', q'⟩ => ?_) fun _ _ z => z)
    subst er
    simp only [Option.isNone_some, Bool.false_eq_true, if_false]
    exact wpAny_bind (wpAny_letGo (wpAny_pure ⟨e.val, rfl, by rw [ev]; exact q'⟩))
end

/-! ### by values -/
section
variable {X : Cx} {al : List Addr} {P : Addr → Prop}
theorem Rt.isKey {w : World} {K : PySem.W.Frag} {H : Hp} {x : V} {k : PV} (r : Rt w K al H P x k) (h : k.isKey = true) : Rz w K al H P x k := by
  refine r.rz ?_
  have := (isKey_and h).1
  cases k <;> first | rfl | simp [Ev.PV.keyable] at this
theorem ix_dct (hu : X.A.units + 64 < cLine) : IxR X (fun x y H Q => ∃ l k r, Rt X.w X.K al H P x (.dct l) ∧ Rt X.w X.K al H P y k ∧ Ev.subscr (.dct l) k = .ok r ∧ Yes X.w X.K al H P false r Q) := by
  intro value slice pins s σ H x y v u Q I rx ry h hs
  obtain ⟨l, k, r, ha, hb, e, q⟩ := h
  obtain ⟨f, e⟩ := need_bind e
  obtain ⟨a, ep, es, rfl, h1, h2⟩ := ha.dict
  cases rx
  obtain ⟨z, hd, rs, m, er⟩ := dct_raw I h1 h2
  obtain ⟨kc, kd⟩ := key_at I f (hb.isKey f) ry
  obtain ⟨p, hp, hv⟩ := rzd_some (isKey_and f).1 h2 (ofOpt_ok e)
  obtain ⟨p', hp', _, rv⟩ := er.getB hp
  exact tail_any (ops := [.ref a, u]) m.typeIs slot_dict_getitem.lookup (item_raw hu kc kd m hp' fun tk => ⟨p.2, H, I.tok tk, rv, q.pass hv⟩) hs
theorem cmp_inD (hu : X.A.units + 64 < cLine) : OpR X (compareOp .In) (fun x y H Q => ∃ k l r, Rt X.w X.K al H P x k ∧ Rt X.w X.K al H P y (.dct l) ∧ Ev.memE k (.dct l) = .ok r ∧ Q (.bl r) H) := by
  intro pins s σ H x y v u Q I rx ry h
  obtain ⟨k, l, r, ha, hb, e, q⟩ := h
  have e : (do Res.need k.isKey; Res.ok (Ev.dHas l k)) = Res.ok r := by cases k <;> first | exact e | rfl
  obtain ⟨f, e⟩ := need_bind e
  obtain ⟨a, ep, es, rfl, h1, h2⟩ := hb.dict
  cases ry
  obtain ⟨z, hd, rs, m, er⟩ := dct_raw I h1 h2
  obtain ⟨kc, kd⟩ := key_at I f (ha.isKey f) rx
  show wpAny _ _ (contains (.ref a) v >>= fun b => pure (Value.bool b)) _ _ s
  refine wpAny_bind (has_raw hu kc kd hd m fun tk => wpAny_pure ⟨.bl r, H, I.tok tk, ?_, q⟩)
  have : (getB rs (toK k)).isSome = r := by
    cases e
    rw [dHas_get]
    cases g : Ev.dGet l k with
    | none => rw [er.getB_none (rzd_none (isKey_and f).1 h2 g)]; rfl
    | some w =>
      obtain ⟨p, hp, _⟩ := rzd_some (isKey_and f).1 h2 g
      obtain ⟨p', hp', _⟩ := er.getB hp
      rw [hp']; rfl
  rw [this]
  rfl
theorem cmp_notInD (hu : X.A.units + 64 < cLine) : OpR X (compareOp .NotIn) (fun x y H Q => ∃ k l r, Rt X.w X.K al H P x k ∧ Rt X.w X.K al H P y (.dct l) ∧ Ev.memE k (.dct l) = .ok r ∧ Q (.bl !r) H) := by
  intro pins s σ H x y v u Q I rx ry h
  obtain ⟨k, l, r, ha, hb, e, q⟩ := h
  have e : (do Res.need k.isKey; Res.ok (Ev.dHas l k)) = Res.ok r := by cases k <;> first | exact e | rfl
  obtain ⟨f, e⟩ := need_bind e
  obtain ⟨a, ep, es, rfl, h1, h2⟩ := hb.dict
  cases ry
  obtain ⟨z, hd, rs, m, er⟩ := dct_raw I h1 h2
  obtain ⟨kc, kd⟩ := key_at I f (ha.isKey f) rx
  show wpAny _ _ (contains (.ref a) v >>= fun b => pure (Value.bool !b)) _ _ s
  refine wpAny_bind (has_raw hu kc kd hd m fun tk => wpAny_pure ⟨.bl !r, H, I.tok tk, ?_, q⟩)
  have : (getB rs (toK k)).isSome = r := by
    cases e
    rw [dHas_get]
    cases g : Ev.dGet l k with
    | none => rw [er.getB_none (rzd_none (isKey_and f).1 h2 g)]; rfl
    | some w =>
      obtain ⟨p, hp, _⟩ := rzd_some (isKey_and f).1 h2 g
      obtain ⟨p', hp', _⟩ := er.getB hp
      rw [hp']; rfl
  rw [this]
  rfl
/-- d.get(k), d.get(k, x) -/
theorem mt_get (hu : X.A.units + 64 < cLine) : MtR X "dict.get" (fun x xs H Q => ∃ l k y r, Rt X.w X.K al H P x (.dct l) ∧ k.isKey = true ∧ Rt X.w X.K al H P y k ∧
    ((xs = [y] ∧ r = (Ev.dGet l k).getD .non ∧ Yes X.w X.K al H P false r Q) ∨ ∃ z d, xs = [y, z] ∧ Rz X.w X.K al H P z d ∧ r = (Ev.dGet l k).getD d ∧ Yes X.w X.K al H P false r Q)) := by
  intro pins s σ H x xs v us Q I rx rs h
  obtain ⟨l, k, y, r, ha, f, hb, h⟩ := h
  obtain ⟨a, ep, es, rfl, h1, h2⟩ := ha.dict
  cases rx
  obtain ⟨z, hd, rows, m, er⟩ := dct_raw I h1 h2
  rcases h with ⟨rfl, rfl, q⟩ | ⟨zz, d, rfl, hz, rfl, q⟩
  · obtain ⟨u, rfl, ru⟩ := vals1 rs
    obtain ⟨kc, kd⟩ := key_at I f (hb.isKey f) ru
    refine getm_raw (dflt := .none) (.inl ⟨rfl, rfl⟩) hu kc kd hd m fun tk => ?_
    cases g : Ev.dGet l k with
    | none =>
      rw [er.getB_none (rzd_none (isKey_and f).1 h2 g)]
      rw [g] at q
      exact ⟨.non, H, I.tok tk, rfl, q.non⟩
    | some w =>
      obtain ⟨p, hp, hv⟩ := rzd_some (isKey_and f).1 h2 g
      obtain ⟨p', hp', _, rv⟩ := er.getB hp
      rw [hp']
      rw [g] at q
      exact ⟨p.2, H, I.tok tk, rv, q.pass hv⟩
  · obtain ⟨u, u2, rfl, ru, ru2⟩ := vals2 rs
    obtain ⟨kc, kd⟩ := key_at I f (hb.isKey f) ru
    refine getm_raw (dflt := u2) (.inr rfl) hu kc kd hd m fun tk => ?_
    cases g : Ev.dGet l k with
    | none =>
      rw [er.getB_none (rzd_none (isKey_and f).1 h2 g)]
      rw [g] at q
      exact ⟨zz, H, I.tok tk, ru2, q.pass hz⟩
    | some w =>
      obtain ⟨p, hp, hv⟩ := rzd_some (isKey_and f).1 h2 g
      obtain ⟨p', hp', _, rv⟩ := er.getB hp
      rw [hp']
      rw [g] at q
      exact ⟨p.2, H, I.tok tk, rv, q.pass hv⟩
/-- d[k] = v -/
theorem set_dct (hu : X.A.units + 64 < cLine) : PSet X (fun o i v H Q => ∃ a ep es l k y, o = .ref a ∧ H a = some (DctO X.w a ep es) ∧ RzD X.w X.K al H P es l ∧ k.isKey = true ∧ es.length < sizeLine ∧ y = v ∧ Rz X.w X.K al H P i k ∧
    ∀ ep', Q (upd H a (DctO X.w a ep' (putB es (toK k) (fun p => (p.1, v)) (i, v))))) := by
  intro pins s σ H o i v ov iv u Q I ro ri rv h
  obtain ⟨a, ep, es, l, k, y, rfl, h1, h2, f, lt, rfl, hi, q⟩ := h
  cases ro
  obtain ⟨z, hd, rs, m, er⟩ := dct_raw I h1 h2
  obtain ⟨kc, kd⟩ := key_at I f hi ri
  refine put_raw hu kc kd m (by rw [← Paired.length er]; exact z) fun h' tk ep' m' sb => ⟨_, dct_write I h1 (Nat.le_trans (length_putB _ _ _ _) lt) hd m' (er.put ri rv) sb, q ep'⟩
/-- d.pop(k) -/
theorem mt_popD (hu : X.A.units + 64 < cLine) : MtR X "dict.pop" (fun x xs H Q => ∃ a ep es l k y v, x = .ref a ∧ xs = [y] ∧ H a = some (DctO X.w a ep es) ∧ RzD X.w X.K al H P es l ∧ k.isKey = true ∧ Rz X.w X.K al H P y k ∧ Ev.dGet l k = some v ∧
    ∀ z ep', Rz X.w X.K al H P z v → Q z (upd H a (DctO X.w a ep' (delB es (toK k))))) := by
  intro pins s σ H x xs v us Q I rx rs h
  obtain ⟨a, ep, es, l, k, y, w, rfl, rfl, h1, h2, f, hy, g, q⟩ := h
  cases rx
  obtain ⟨u, rfl, ru⟩ := vals1 rs
  obtain ⟨z, hd, rows, m, er⟩ := dct_raw I h1 h2
  obtain ⟨kc, kd⟩ := key_at I f hy ru
  obtain ⟨p, hp, hv⟩ := rzd_some (isKey_and f).1 h2 g
  obtain ⟨p', hp', _, rv⟩ := er.getB hp
  exact pop_raw hu kc kd m (by rw [← Paired.length er]; exact z) hp' fun h' tk ep' m' sb => ⟨p.2, _, dct_write I h1 (Nat.le_trans (length_delB _ _) z) hd m' (er.del _) sb, rv, q _ ep' hv⟩
end
end EvB
end

section
set_option autoImplicit false
set_option Elab.async false
set_option linter.all false
set_option maxRecDepth 100000
set_option maxHeartbeats 1000000
/-! dicts whose keys are ints and texts, as the library's own -/
namespace EvB
open PySem PySem.Spec PyProof.Rows L2
open Ev (PV Store Res)

def keyN : L2.Key → NestedKey
  | .inl i => .num i
  | .inr x => .text x
def entM (kvs : List (L2.Key × V)) : List Ent := kvs.map fun kv => (keyN kv.1, kV kv.1, kv.2)
theorem keyN_inj {a b : L2.Key} (h : keyN a = keyN b) : a = b := by
  cases a <;> cases b <;> simp [keyN] at h <;> rw [h]
def mixKey : PV → Option L2.Key
  | .int i => some (.inl i)
  | .str s => some (.inr (toS s))
  | _ => none
theorem mixKey_toK {k : PV} {c : L2.Key} (h : mixKey k = some c) : toK k = keyN c := by
  cases k <;> simp [mixKey] at h <;> subst h <;> rfl
theorem mixKey_key {k : PV} {c : L2.Key} (h : mixKey k = some c) : k.keyable = true ∧ k.depth ≤ 8 := by
  cases k <;> simp [mixKey] at h <;> exact ⟨rfl, Nat.zero_le _⟩
theorem keyH_hash (w : World) (k : L2.Key) : keyH w k = (keyN k).hash w := by cases k <;> rfl
theorem kV_key {k : L2.Key} {u : Value} (h : keyIs k u = true) : RelV (kV k) u := by
  rcases keyIs_shape h with ⟨i, t, rfl, rfl⟩ | ⟨x, t, rfl, rfl⟩
  · exact ⟨t, rfl⟩
  · exact ⟨t, rfl⟩
section
variable {w : World} {K : PySem.W.Frag} {al : List Addr} {H : Hp} {P : Addr → Prop}
theorem mixKey_rz {k : PV} {c : L2.Key} {x : V} (h : mixKey k = some c) (r : Rz w K al H P x k) : x = kV c := by
  cases k <;> simp [mixKey] at h
  · subst h; cases r; rfl
  · subst h; cases r; rfl
theorem rz_mixKey {k : PV} {c : L2.Key} (h : mixKey k = some c) (hs : ∀ s, k = .str s → s.length ≤ sizeLine) : Rz w K al H P (kV c) k := by
  cases k <;> simp [mixKey] at h
  · subst h; exact .int _
  · subst h; exact .str _ (hs _ rfl)
def mixAll (ds : List (PV × PV)) : Prop := ∀ kv ∈ ds, ∃ c, mixKey kv.1 = some c
theorem rzd_mix : ∀ {es : List Ent} {ds : List (PV × PV)}, RzD w K al H P es ds → mixAll ds → ∃ kvs, es = entM kvs
  | _, _, .nil, _ => ⟨[], rfl⟩
  | _, _, .cons (e := e) (es := es) (k := k) (v := v) (ds := ds) h1 h2 h3 h4 h5 t, m => by
    obtain ⟨kvs, rfl⟩ := rzd_mix t fun kv h => m kv (List.mem_cons_of_mem _ h)
    obtain ⟨c, hc⟩ := m (k, v) List.mem_cons_self
    refine ⟨(c, e.2.2) :: kvs, ?_⟩
    obtain ⟨e1, e2, e3⟩ := e
    simp only at h1 h4
    rw [h1, mixKey_rz hc h4, mixKey_toK hc]
    rfl
theorem rzd_any {k : PV} {c : L2.Key} (hc : mixKey k = some c) : ∀ {kvs : List (L2.Key × V)} {ds : List (PV × PV)}, RzD w K al H P (entM kvs) ds → (kvs.any fun kv => decide (kv.1 = c)) = Ev.dHas ds k
  | [], _, r => by cases r; rfl
  | kv :: kvs, ds, r => by
    cases r with
    | cons h1 h2 h3 h4 h5 t =>
      unfold Ev.dHas
      rw [List.any_cons, List.any_cons, toK_eqv _ k h2 (mixKey_key hc).1, ← h1, mixKey_toK hc]
      have := rzd_any hc t
      unfold Ev.dHas at this
      rw [this]
      congr 1
      by_cases e : kv.1 = c
      · rw [decide_eq_true e, decide_eq_true (show keyN kv.1 = keyN c by rw [e])]
      · rw [decide_eq_false e, decide_eq_false fun z => e (keyN_inj z)]
theorem rzd_mapK {k v : PV} {y : V} {c : L2.Key} (hc : mixKey k = some c) (ry : Rz w K al H P y v) : ∀ {kvs : List (L2.Key × V)} {ds : List (PV × PV)}, RzD w K al H P (entM kvs) ds →
    RzD w K al H P (entM (kvs.map fun kv => if kv.1 = c then (kv.1, y) else kv)) (ds.map fun kv => if kv.1.eqv k = true then (kv.1, v) else kv)
  | [], _, r => by cases r; exact .nil
  | kv :: kvs, _, r => by
    cases r with
    | cons h1 h2 h3 h4 h5 t =>
      rw [List.map_cons, List.map_cons, toK_eqv _ k h2 (mixKey_key hc).1, ← h1, mixKey_toK hc]
      by_cases e : kv.1 = c
      · rw [if_pos e, if_pos (decide_eq_true (show keyN kv.1 = keyN c by rw [e]))]
        exact .cons h1 h2 h3 h4 ry (rzd_mapK hc ry t)
      · rw [if_neg e, if_neg (by rw [decide_eq_false fun z => e (keyN_inj z)]; exact Bool.false_ne_true)]
        exact .cons h1 h2 h3 h4 h5 (rzd_mapK hc ry t)
theorem entM_append (a b : List (L2.Key × V)) : entM (a ++ b) = entM a ++ entM b := List.map_append
theorem rzd_putK {k v : PV} {y : V} {c : L2.Key} (hc : mixKey k = some c) (hk : Rz w K al H P (kV c) k) (ry : Rz w K al H P y v) {kvs : List (L2.Key × V)} {ds : List (PV × PV)} (r : RzD w K al H P (entM kvs) ds) :
    RzD w K al H P (entM (putK kvs c y)) (Ev.dPut ds k v) := by
  unfold putK Ev.dPut
  rw [rzd_any hc r]
  split
  · exact rzd_mapK hc ry r
  · rw [entM_append]
    have := rzd_snoc (mixKey_key hc).1 (mixKey_key hc).2 hk ry r
    rw [mixKey_toK hc] at this
    exact this
theorem rzd_mergeK : ∀ {more : List (L2.Key × V)} {ms : List (PV × PV)}, RzD w K al H P (entM more) ms → mixAll ms → ∀ {kvs : List (L2.Key × V)} {ds : List (PV × PV)}, RzD w K al H P (entM kvs) ds → RzD w K al H P (entM (mergeK kvs more)) (Ev.dUpd ds ms)
  | [], _, r, _, _, _, q => by cases r; exact q
  | p :: more, ms, r, m, kvs, ds, q => by
    generalize hx : entM (p :: more) = es at r
    cases r with
    | nil => cases hx
    | cons h1 h2 h3 h4 h5 t =>
      rename_i e es' k v ms'
      obtain ⟨rfl, rfl⟩ : (keyN p.1, kV p.1, p.2) = e ∧ entM more = es' := by
        injection hx with a b
        exact ⟨a, b⟩
      obtain ⟨c, hc⟩ := m (k, v) List.mem_cons_self
      have e1 : p.1 = c := keyN_inj (by rw [← mixKey_toK hc, ← h1])
      have h4' : Rz w K al H P (kV c) k := by rw [← e1]; exact h4
      have := rzd_putK hc h4' h5 q
      rw [← e1] at this
      exact rzd_mergeK t (fun kv h => m kv (List.mem_cons_of_mem _ h)) this
end
/-! ### the two ways to speak of one dict -/
section
variable {X : Cx} {pins : List (Addr × Obj)} {σ : L2.St} {H : Hp} {s : Shared}
theorem dictOf_of {prog : Program} {w : World} {h : Heap} {a : Addr} {o : Obj} {es : Array DictEntry} {ep : Nat} (ho : h.get? a = some o) (hx : o.ExactDict) (hd : o.data = .dict es ep) :
    ∀ {kvs : List (L2.Key × V)} , (kvs.map (·.1)).Nodup → Paired (fun (p : Ent) (e : DictEntry) => e.hash = p.1.hash w ∧ RelV p.2.1 e.key ∧ RelV p.2.2 e.val) (entM kvs) es.toList → ∃ vs, KV kvs vs ∧ h.DictOf (mixKind prog w) a vs := by
  intro kvs nd pr
  have key : ∀ (kvs : List (L2.Key × V)) (l : List DictEntry), Paired (fun (p : Ent) (e : DictEntry) => e.hash = p.1.hash w ∧ RelV p.2.1 e.key ∧ RelV p.2.2 e.val) (entM kvs) l → ∃ vs, KV kvs vs ∧ Pairs (mixKind prog w) l vs ∧ ∀ e ∈ l, ∃ k, (mixKind prog w).is k e.key = true ∧ e.hash = (mixKind prog w).hash k := by
    intro kvs
    induction kvs with
    | nil =>
      intro l pr
      cases pr
      exact ⟨[], .nil, .nil, fun e h => absurd h List.not_mem_nil⟩
    | cons kv kvs ih =>
      intro l pr
      generalize hx : entM (kv :: kvs) = es at pr
      cases pr with
      | nil => cases hx
      | cons h t =>
        rename_i p e es' l'
        obtain ⟨rfl, rfl⟩ : (keyN kv.1, kV kv.1, kv.2) = p ∧ entM kvs = es' := by
          injection hx with a b
          exact ⟨a, b⟩
        obtain ⟨vs, h1, h2, h3⟩ := ih _ t
        have hk : (mixKind prog w).is kv.1 e.key = true := kV_is h.2.1
        refine ⟨(kv.1, e.val) :: vs, .cons ⟨rfl, h.2.2⟩ h1, .cons hk rfl h2, fun f hf => ?_⟩
        rcases List.mem_cons.mp hf with rfl | hf
        · exact ⟨kv.1, hk, h.1.trans (keyH_hash w kv.1).symm⟩
        · exact h3 f hf
  obtain ⟨vs, h1, h2, h3⟩ := key kvs es.toList pr
  exact ⟨vs, h1, o, es, ep, ho, hx, hd, fun e he => h3 e (Array.mem_toList_iff.mpr he), h2, by rw [← h1.keys]; exact nd⟩
theorem entM_keys (kvs : List (L2.Key × V)) : (entM kvs).map (·.1) = (kvs.map (·.1)).map keyN := by
  unfold entM
  rw [List.map_map, List.map_map]
  rfl
theorem nodup_map_inj {α β : Type} {f : α → β} (hf : ∀ a b, f a = f b → a = b) : ∀ {l : List α}, (l.map f).Nodup ↔ l.Nodup
  | [] => by simp
  | x :: l => by
    rw [List.map_cons, List.nodup_cons, List.nodup_cons, nodup_map_inj hf]
    constructor
    · rintro ⟨a, b⟩
      exact ⟨fun z => a (List.mem_map_of_mem z), b⟩
    · rintro ⟨a, b⟩
      refine ⟨fun z => ?_, b⟩
      obtain ⟨y, hy, e⟩ := List.mem_map.mp z
      rw [hf _ _ e] at hy
      exact a hy
theorem entM_nodup {kvs : List (L2.Key × V)} : ((entM kvs).map (·.1)).Nodup ↔ (kvs.map (·.1)).Nodup := by
  rw [entM_keys]
  exact nodup_map_inj fun a b h => keyN_inj h
theorem pairs_ent {prog : Program} {w : World} : ∀ {kvs : List (L2.Key × V)} {l : List DictEntry} {vs : List (L2.Key × Value)}, KV kvs vs → Pairs (mixKind prog w) l vs → (∀ e ∈ l, ∃ k, (mixKind prog w).is k e.key = true ∧ e.hash = (mixKind prog w).hash k) →
    Paired (fun (p : Ent) (e : DictEntry) => e.hash = p.1.hash w ∧ RelV p.2.1 e.key ∧ RelV p.2.2 e.val) (entM kvs) l
  | _, _, _, .nil, .nil, _ => .nil
  | _, _, _, .cons (a := p) h t, .cons (e := e) h1 h2 t2, m => by
    obtain ⟨k, hk, hh⟩ := m e List.mem_cons_self
    have ek : k = p.1 := by
      rw [h.1]
      exact (mixKind prog w).inj _ _ _ hk h1
    refine .cons ⟨?_, ?_, ?_⟩ (pairs_ent t t2 fun f hf => m f (List.mem_cons_of_mem _ hf))
    · rw [hh, ek]
      exact keyH_hash w p.1
    · rw [ek] at hk
      exact kV_key hk
    · rw [h2]
      exact h.2
theorem dctO_of {H' : Hp} {h : Heap} {a : Addr} {kvs : List (L2.Key × V)} {vs : List (L2.Key × Value)} (z : kvs.length ≤ sizeLine) (hd : (a == sysModules) = false) (kv : KV kvs vs) (dd : h.DictOf (mixKind X.prog X.w) a vs) : ∃ ep, ObjOk X.prog X.w H' h a (DctO X.w a ep (entM kvs)) := by
  obtain ⟨o, es, ep, ho, hx, hdat, hk, hp, nd⟩ := dd
  refine ⟨ep, ⟨by simpa [entM] using z, hd, ?_, o, es, ho, hx, hdat, pairs_ent kv hp fun f hf => hk f (Array.mem_toList_iff.mp hf)⟩, ⟨o, ho⟩, ?_⟩
  · rw [entM_nodup, kv.keys]
    exact nd
  · rintro h1 h2 ⟨z, hd, nd, o, es', ho, r⟩ k
    exact ⟨z, hd, nd, o, es', k _ ho, r⟩
theorem mix_dict (I : Inv X pins σ H s) {a : Addr} {ep : Nat} {kvs : List (L2.Key × V)} (e : H a = some (DctO X.w a ep (entM kvs))) : kvs.length ≤ sizeLine ∧ (a == sysModules) = false ∧ ∃ vs, KV kvs vs ∧ s.heap.DictOf (mixKind X.prog X.w) a vs := by
  obtain ⟨⟨z, hd, nd, o, es, ho, hx, hdat, pr⟩, _, _⟩ := I.hok a _ e
  exact ⟨by simpa [entM] using z, hd, dictOf_of (prog := X.prog) ho hx hdat (entM_nodup.mp nd) pr⟩
end
end EvB
end

section
set_option autoImplicit false
set_option Elab.async false
set_option linter.all false
set_option maxRecDepth 100000
set_option maxHeartbeats 1000000
/-! dicts made of pairs -/
namespace EvB
open PySem PySem.Spec PyProof.Rows L2
open Ev (PV Store Res)
/-- pair after pair is put in -/
def puts {α : Type} (acc ms : List (NestedKey × α × α)) : List (NestedKey × α × α) := ms.foldl (fun a m => putB a m.1 (fun p => (p.1, m.2.2)) m.2) acc
theorem nodup_puts {α : Type} : ∀ (ms acc : List (NestedKey × α × α)), (acc.map (·.1)).Nodup → ((puts acc ms).map (·.1)).Nodup
  | [], _, h => h
  | m :: ms, acc, h => nodup_puts ms (putB acc m.1 (fun p => (p.1, m.2.2)) m.2) (nodup_putB h _ _ _)
theorem length_puts {α : Type} : ∀ (ms acc : List (NestedKey × α × α)), (puts acc ms).length ≤ acc.length + ms.length
  | [], _ => Nat.le_refl _
  | m :: ms, acc => by
    have h1 := length_puts ms (putB acc m.1 (fun p => (p.1, m.2.2)) m.2)
    have h2 := length_putB acc m.1 (fun p => (p.1, m.2.2)) m.2
    rw [List.length_cons]
    show (puts (putB acc m.1 (fun p => (p.1, m.2.2)) m.2) ms).length ≤ _
    omega
theorem puts_take {α : Type} {acc ms : List (NestedKey × α × α)} {i : Nat} {m : NestedKey × α × α} (h : ms[i]? = some m) : puts acc (ms.take (i + 1)) = putB (puts acc (ms.take i)) m.1 (fun p => (p.1, m.2.2)) m.2 := by
  unfold puts
  rw [List.take_add_one, h, List.foldl_append]
  rfl
theorem ER.puts : ∀ {ms : List Ent} {qs : List Row} {acc : List Ent} {rs : List Row}, ER ms qs → ER acc rs → ER (EvB.puts acc ms) (EvB.puts rs qs)
  | _, _, _, _, .nil, h => h
  | _, _, acc, rs, .cons (a := m) (b := q) h t, r => by
    have : ER (putB acc m.1 (fun p => (p.1, m.2.2)) m.2) (putB rs q.1 (fun p => (p.1, q.2.2)) q.2) := by
      rw [← h.1]
      exact r.put h.2.1 h.2.2
    have h2 := ER.puts t this
    exact h2
theorem told_puts {h : Heap} : ∀ {ms acc : List Row}, Told h ms → Told h acc → Told h (puts acc ms)
  | [], _, _, a => a
  | m :: ms, acc, t, a => told_puts (acc := putB acc m.1 (fun p => (p.1, m.2.2)) m.2) (fun r hr => t r (List.mem_cons_of_mem _ hr)) (told_put a (t m List.mem_cons_self).1 (t m List.mem_cons_self).2)
section
variable {w : World} {K : PySem.W.Frag} {al : List Addr} {H : Hp} {P : Addr → Prop}
theorem rzd_puts : ∀ {ms acc : List Ent} {ps ds : List (PV × PV)}, RzD w K al H P ms ps → RzD w K al H P acc ds → (acc.map (·.1)).Nodup → RzD w K al H P (puts acc ms) (Ev.dUpd ds ps)
  | _, _, _, _, .nil, h, _ => h
  | _, acc, _, ds, .cons (e := e) (k := k) (v := v) h1 h2 h3 h4 h5 t, r, nd => by
    have k1 : k.isKey = true := by simp [Ev.PV.isKey, h2, h3]
    have := rzd_put r nd k1 h4 h5
    rw [← h1] at this
    have h6 := rzd_puts t this (nodup_putB nd _ _ _)
    exact h6
end
section
variable {prog : Program} {w : World} {A : Around} {E : Value → Shared → Prop} {s : Shared} {d : Addr} {ep : Nat}
theorem Raw.empty {h : Heap} : Raw w (h.push { cls := .type "dict", data := .dict #[] }) h.objs.size 0 [] :=
  ⟨⟨_, #[], Heap.get?_push_size _ rfl, ⟨rfl, rfl, rfl⟩, rfl, rfl⟩, fun r m => absurd m List.not_mem_nil, List.nodup_nil⟩
theorem Raw.at {h h' : Heap} {rs : List Row} (m : Raw w h d ep rs) (k : ∀ b o, h.get? b = some o → h'.get? b = some o) : Raw w h' d ep rs := by
  obtain ⟨⟨o, es, ho, r⟩, t, n⟩ := m
  exact ⟨⟨o, es, k _ _ ho, r⟩, fun r hr => ⟨NestedIs.at (fun a o _ _ e _ => k a o e) _ _ (t r hr).1, (t r hr).2⟩, n⟩
theorem told_frame {h h' : Heap} {rs : List Row} {o : Obj} {es : Array DictEntry} {ep : Nat} (t : Told h rs) (ho : h.get? d = some o) (hd : o.data = .dict es ep) (k : ∀ b o, b ≠ d → h.get? b = some o → h'.get? b = some o) : Told h' rs := fun r hr =>
  ⟨NestedIs.at (fun a oa vs n e hs => k a oa (fun z => by
    subst z
    rw [ho] at e
    cases e
    rw [hd] at hs
    cases hs) e) _ _ (t r hr).1, (t r hr).2⟩
/-- the walk of dict() and update() over a list of pairs -/
theorem upds_raw {nm : String} {a : Addr} {OK : Heap → Prop} {fp : List Addr} {acc ms : List Row} {R : Result → Shared → Prop} (res : Value) (P : PairArg prog w "list" a fp [] ms.length (PairRel (ms.map (·.2))) OK) (hu : A.units + 32 < cLine) (hh : A.handled = none)
    (ok : OK s.heap) (hdf : d ∉ fp) (m : Raw w s.heap d ep acc) (tm : Told s.heap ms) (hz : acc.length + ms.length ≤ sizeLine)
    (hR : ∀ h' tk ep', Raw w h' d ep' (puts acc ms) → (∀ b o, b ≠ d → s.heap.get? b = some o → h'.get? b = some o) → R (.ok (.ret res)) { s with heap := h', toks := tk }) :
    wpAny (model prog w) A.in1 (Builtin.Dict.updateFrom nm d (.ref a) [] res)
      (fun fin s' => match fin with | .done f => R (.ok f) s' | .again c' => c'.quiet = true ∧ codeAny (model prog w) A c' R s') (fun e s' => R (.error e) s') s := by
  obtain ⟨⟨o0, es0, ho0, hx0, hd0, he0⟩, t0, n0⟩ := id m
  refine updateFrom_arg (Tab := fun i h => (∃ o es ep, h.get? d = some o ∧ o.ExactDict ∧ o.data = .dict es ep ∧ es.toList = (puts acc (ms.take i)).map (ent w)) ∧ ∀ b o, b ≠ d → s.heap.get? b = some o → h.get? b = some o)
    P res hh ok hdf ⟨⟨o0, es0, _, ho0, hx0, hd0, he0⟩, fun b o _ e => e⟩ (fun i h t => ?_) (fun i h h' wr' hd hw t k => ?_) (fun i k v s1 Q E1 hi rel t pa q => ?_) (fun h' tk t k => ?_)
  · obtain ⟨⟨o, _, _, ho, _⟩, _⟩ := t
    exact Heap.lt_size ho
  · obtain ⟨⟨o, es, ep, ho, r⟩, f⟩ := t
    refine ⟨⟨o, es, ep, k d o hd ho, r⟩, fun b o' hb e => k b o' (fun z => ?_) (f b o' hb e)⟩
    rcases hw b z with z | z
    · cases z
    · rw [z] at e
      cases e
  · obtain ⟨⟨o, es, ep, ho, hx, hdat, he⟩, f⟩ := t
    have e1 : (ms.map (·.2))[i]? = some (k, v) := rel
    rw [List.getElem?_map] at e1
    obtain ⟨mm, hm, e2⟩ := Option.map_eq_some_iff.mp e1
    have tt : Told s1.heap (puts acc (ms.take i)) := told_frame (told_puts (fun r hr => tm r (List.mem_of_mem_take hr)) t0) ho0 hd0 f
    have tk1 : Told s1.heap ms := told_frame tm ho0 hd0 f
    obtain ⟨kc, kd⟩ := tk1 mm (List.mem_of_getElem? hm)
    have e3 : mm.2.1 = k := by rw [e2]
    have e4 : mm.2.2 = v := by rw [e2]
    rw [e3] at kc
    have hl : (puts acc (ms.take i)).length ≤ sizeLine := by
      have h1 := length_puts (ms.take i) acc
      have h2 : (ms.take i).length ≤ ms.length := by rw [List.length_take]; omega
      omega
    refine set_raw (A := A.in1) (by show A.units + 1 + 8 < cLine; omega) kc kd ⟨⟨o, es, ho, hx, hdat, he⟩, tt, nodup_puts _ _ n0⟩ hl fun h' tk ep' m' sb => q h' tk ⟨?_, fun b ob hb e => (sb.2 b hb).trans (f b ob hb e)⟩ sb
    rw [puts_take hm, e4]
    obtain ⟨oo, ee, r⟩ := m'.1
    rw [show mm.2 = (k, v) from e2]
    exact ⟨oo, ee, _, r⟩
  · obtain ⟨⟨o, es, ep', r⟩, f⟩ := t
    rw [List.take_length] at r
    exact hR h' tk ep' ⟨⟨o, es, r⟩, told_frame (told_puts tm t0) ho0 hd0 f, nodup_puts _ _ n0⟩ fun b o hb e => k b o hb (fun z => nomatch z) e
theorem dict_list_raw {a : Addr} {items : Array Value} {Ts : Nat → Addr} {ms : List Row} {Q : Value → Shared → Prop} (hu : A.units + 64 < cLine) (hh : A.handled = none) (hp : PlainSeq "list" s.heap a items) (hi : PairItems s.heap items Ts (ms.map (·.2))) (tm : Told s.heap ms) (hz : ms.length ≤ sizeLine)
    (q : ∀ h' tk ep', Raw w h' s.heap.objs.size ep' (puts [] ms) → (∀ b o, s.heap.get? b = some o → h'.get? b = some o) → Q (.ref s.heap.objs.size) { s with heap := h', toks := tk }) :
    wpAny (model prog w) A (call (.type "dict") [.ref a]) Q E s := by
  have P := PairArg.list (prog := prog) (w := w) a items Ts (ms.map (·.2))
  rw [List.length_map] at P
  refine call_dict_arg P ⟨hp, hi⟩ fun s1 e1 hdf ok => ?_
  subst e1
  refine upds_raw (A := A.in1) (acc := []) .none P (by show A.units + 1 + 32 < cLine; omega) hh ok hdf Raw.empty (fun r hr => ⟨NestedIs.at (fun a o _ _ e _ => Heap.get?_push_of_some _ e) _ _ (tm r hr).1, (tm r hr).2⟩) (by simpa using hz) fun h' tk ep' m' k => ?_
  exact ⟨rfl, q h' tk ep' m' fun b o e => k b o (Nat.ne_of_lt (Heap.lt_size e)) (Heap.get?_push_of_some _ e)⟩
end
section
variable {X : Cx} {al : List Addr} {P : Addr → Prop}
theorem Yes.newD {w : World} {K : PySem.W.Frag} {H : Hp} {Q : VK} {fr : Bool} {es : List Ent} {ds : List (PV × PV)} (h : Yes w K al H P fr (.dct ds) Q) (r : RzD w K al H P es ds) {p : Addr} {ep : Nat} (np : H p = none) (pp : P p) : Q (.ref p) (upd H p (DctO w p ep es)) :=
  h _ _ (same_new np) (.dct upd_same pp (r.ext (Ext.same (C := fun _ => False) (same_new np)) (fun _ _ z => z))) (fun _ _ e => by cases e; exact .inl np)
theorem pairs_at {pins : List (Addr × Obj)} {σ : L2.St} {H : Hp} {s : Shared} (I : Inv X pins σ H s) : ∀ {l : List PV} {xs : List V} {ps : List (PV × PV)}, RzL X.w X.K al H P xs l → Ev.pairsOf l = .ok ps →
    ∃ (bs : List Addr) (es : List Ent) (rs : List Row), xs = bs.map V.ref ∧ RzD X.w X.K al H P es ps ∧ ER es rs ∧ bs.length = rs.length ∧ ∀ (j : Nat) (r : Row), rs[j]? = some r → ∃ b, bs[j]? = some b ∧ IsTup s.heap b #[r.2.1, r.2.2]
  | [], _, _, r, e => by
    cases r
    cases e
    exact ⟨[], [], [], rfl, .nil, .nil, rfl, fun j r e => by simp at e⟩
  | d :: l, _, _, r, e => by
    cases r with
    | cons h1 h2 =>
      obtain ⟨p, e1, e⟩ := Res.bind_eq_ok e
      obtain ⟨ps, e2, e⟩ := Res.bind_eq_ok e
      cases e
      obtain ⟨bs, es, rs, rfl, i2, i3, i4, i5⟩ := pairs_at I h2 e2
      have : ∃ k v, d = .tup [k, v] ∧ k.isKey = true ∧ p = (k, v) := by
        unfold Ev.pairOf at e1
        split at e1
        · obtain ⟨f, e1⟩ := need_bind e1
          cases e1
          exact ⟨_, _, rfl, f, rfl⟩
        · cases e1
      obtain ⟨k, v, rfl, f, rfl⟩ := this
      cases h1 with
      | tup t1 t2 =>
        cases t2 with
        | cons u1 t3 =>
          cases t3 with
          | cons u2 t4 =>
            cases t4
            rename_i b xk xv
            obtain ⟨its, rv, ht, _⟩ := I.tuple t1
            obtain ⟨a1, a2, rfl, r1, r2⟩ := vals2 rv
            refine ⟨b :: bs, (toK k, xk, xv) :: es, (toK k, a1, a2) :: rs, rfl, .cons rfl (isKey_and f).1 (isKey_and f).2 u1 u2 i2, .cons ⟨rfl, r1, r2⟩ i3, by simp [i4], fun j r e => ?_⟩
            cases j with
            | zero =>
              simp at e
              subst e
              exact ⟨b, rfl, ht⟩
            | succ j =>
              obtain ⟨b', h1, h2⟩ := i5 j r (by simpa using e)
              exact ⟨b', by simpa using h1, h2⟩
theorem call_dictL (hcalm : X.calm = true) (hu : X.A.units + 64 < cLine) : CallR X (.type "dict") (fun xs H Q => ∃ x l ps, xs = [x] ∧ Rt X.w X.K al H P x (.lst l) ∧ Ev.pairsOf l = .ok ps ∧ (∀ p, H p = none → P p) ∧ Yes X.w X.K al H P true (.dct (Ev.dUpd [] ps)) Q) := by
  intro pins s σ H xs us Q I r q
  obtain ⟨x, l, ps, rfl, hl, e, fr, q⟩ := q
  obtain ⟨a, xs, rfl, h1, h2⟩ := hl.list
  obtain ⟨u, rfl, rx⟩ := vals1 r
  cases rx
  obtain ⟨bs, es, rs, rfl, i2, i3, i4, i5⟩ := pairs_at I h2 e
  obtain ⟨its, rv, pl, hz⟩ := I.list (.inl (.inl h1))
  have ei := refs_at rv
  subst ei
  rw [List.length_map] at hz
  obtain ⟨o, n, ho, hc, hd, hdat⟩ := pl
  refine dict_list_raw (ms := rs) (items := (bs.map Value.ref).toArray) (Ts := fun j => bs.getD j 0) hu (I.ok.hd hcalm) ⟨o, n, ho, hc, hd, hdat⟩ ⟨by simp [i4], fun j k v ej => ?_⟩ (told_of I i2 i3) (by rw [← i4]; exact hz) fun h' tk ep' m' k => ?_
  · rw [List.getElem?_map] at ej
    obtain ⟨rr, hr, er⟩ := Option.map_eq_some_iff.mp ej
    obtain ⟨b, hb, ht⟩ := i5 j rr hr
    have e1 : bs.getD j 0 = b := by rw [List.getD_eq_getElem?_getD, hb]; rfl
    refine ⟨by simp [hb, e1], .inl ?_⟩
    show s.heap.IsTuple (bs.getD j 0) #[k, v]
    rw [e1]
    rw [show rr.2.1 = k by rw [er], show rr.2.2 = v by rw [er]] at ht
    exact ht
  · have hm : (s.heap.objs.size == sysModules) = false := beq_eq_false_iff_ne.mpr (Nat.ne_of_gt I.big)
    have np : H s.heap.objs.size = none := I.hok.fresh (Nat.le_refl _)
    have hlen : (puts ([] : List Ent) es).length ≤ sizeLine := by
      have := length_puts es []
      rw [Paired.length i3, ← i4] at this
      simp at this
      omega
    exact ⟨.ref s.heap.objs.size, _, I.laid (t' := tk) k (Nat.le_refl _) (dct_ok hlen hm m' (ER.puts i3 .nil)), rfl, q.newD (rzd_puts i2 .nil (by simp)) np (fr _ np)⟩
theorem mixAll_of {l : List (PV × PV)} (h : (l.all fun kv => kv.1.isMix) = true) : mixAll l := fun kv m => by
  have := List.all_eq_true.mp h kv m
  obtain ⟨k, v⟩ := kv
  cases k <;> first | exact ⟨_, rfl⟩ | cases this
theorem call_dictD : CallR X (.type "dict") (fun xs H Q => ∃ x l r, xs = [x] ∧ Rt X.w X.K al H P x (.dct l) ∧ Ev.builtin .dict [.dct l] = .ok r ∧ (∀ p, H p = none → P p) ∧ Yes X.w X.K al H P true r Q) := by
  intro pins s σ H xs us Q I r q
  obtain ⟨x, l, r, rfl, hl, e, fr, q⟩ := q
  obtain ⟨a, ep, es, rfl, h1, h2⟩ := hl.dict
  obtain ⟨u, rfl, rx⟩ := vals1 (by assumption)
  cases rx
  obtain ⟨f, e⟩ := need_bind e
  cases e
  obtain ⟨kvs, rfl⟩ := rzd_mix h2 (mixAll_of f)
  obtain ⟨z, hd, vs, rel, dd⟩ := mix_dict I h1
  refine kt_call_dict hd dd (by rw [← rel.length]; exact z) fun h' dd' hs => ?_
  have np := I.hok.fresh (Nat.le_refl s.heap.objs.size)
  obtain ⟨ep', ok'⟩ := dctO_of (X := X) (H' := upd H s.heap.objs.size (DctO X.w s.heap.objs.size 0 [])) z (beq_eq_false_iff_ne.mpr (Ne.symm (Nat.ne_of_lt I.big))) rel dd'
  refine ⟨.ref s.heap.objs.size, _, I.laid (a := s.heap.objs.size) (t' := s.toks) (fun b q hq => ?_) (Nat.le_refl _) (show ObjOk _ _ _ _ _ (DctO X.w _ ep' (entM kvs)) from ok'), rfl, q.newD h2 np (fr _ np)⟩
  exact (hs.2 b (Nat.ne_of_lt (Heap.lt_size hq))).trans (Heap.get?_push_of_some _ hq)
/-- d.update(e) -/
theorem mt_update : MtR X "dict.update" (fun x xs H Q => ∃ a b ep eq es fs l m, x = .ref a ∧ xs = [.ref b] ∧ a ≠ b ∧ H a = some (DctO X.w a ep es) ∧ RzD X.w X.K al H P es l ∧ H b = some (DctO X.w b eq fs) ∧ RzD X.w X.K al H P fs m ∧ l.length + m.length < Ev.line ∧
    (l.all fun kv => kv.1.isMix) = true ∧ (m.all fun kv => kv.1.isMix) = true ∧ ∀ ep' es', RzD X.w X.K al H P es' (Ev.dUpd l m) → Q .non (upd H a (DctO X.w a ep' es'))) := by
  intro pins s σ H x xs v us Q I rx rs h
  obtain ⟨a, b, ep, eq, es, fs, l, m, rfl, rfl, ne, h1, h2, h3, h4, hz, f1, f2, q⟩ := h
  cases rx
  obtain ⟨u, rfl, ru⟩ := vals1 rs
  cases ru
  obtain ⟨kvs, rfl⟩ := rzd_mix h2 (mixAll_of f1)
  obtain ⟨more, rfl⟩ := rzd_mix h4 (mixAll_of f2)
  obtain ⟨z1, hd1, vs, rel1, dd1⟩ := mix_dict I h1
  obtain ⟨z2, hd2, ws, rel2, dd2⟩ := mix_dict I h3
  have l1 := h2.length
  have l2 := h4.length
  have hlen : kvs.length + more.length ≤ sizeLine := by
    simp only [entM, List.length_map] at l1 l2
    rw [l1, l2, sizeLine_eq]
    unfold Ev.line at hz
    omega
  refine call_meetsIn F.slot_dict_update dd1.typeIs F.entry_dict_update (F.args_dict_update_2 _ _) (PySem.meets_dict_update (mixKind X.prog X.w) a b ne hd2) ⟨vs, ws, dd1, dd2, by rw [← rel1.length, ← rel2.length]; exact hlen, fun h' dd' _ hs => ?_⟩
  have he : ∃ q, h'.get? a = some q := let ⟨q, _, _, hq, _⟩ := dd'; ⟨q, hq⟩
  have hl3 := length_mergeK more kvs
  obtain ⟨ep', ok'⟩ := dctO_of (X := X) (H' := H) (by omega) hd1 (KV.merge rel2 rel1) dd'
  exact ⟨.non, _, d_write (t' := s.toks) I (by rw [h1]; exact True.intro) hs he (show ObjOk _ _ _ _ _ (DctO X.w a ep' _) from ok'), rfl, q ep' _ (rzd_mergeK h4 (mixAll_of f2) h2)⟩
end
end EvB
end

section
set_option autoImplicit false
set_option Elab.async false
set_option linter.all false
set_option maxRecDepth 100000
set_option maxHeartbeats 1000000
/-! the state of a body: what stands where -/
namespace EvB
open PySem PySem.Spec PyProof.Rows L2
open Ev (PV Store Res EnvV CallF CE)

/-- al: the shared objects; P: what may be within a value; C: what may be within a shared object; O: the object that a slot alone holds -/
structure Sit where
  al : List Addr
  P : Addr → Prop
  C : Addr → Prop
  O : Nat → Option Addr
/-- the own objects of the slots is may be met, no others, and no shared one -/
def Sit.at (Z : Sit) (is : List Nat) (a : Addr) : Prop := Z.P a ∧ a ∉ Z.al ∧ ∀ i, Z.O i = some a → i ∈ is
theorem Sit.sub {Z : Sit} {is js : List Nat} {a : Addr} (h : Z.at is a) (s : ∀ i ∈ is, i ∈ js) : Z.at js a := ⟨h.1, h.2.1, fun i e => s i (h.2.2 i e)⟩
structure StOk (w : World) (K : PySem.W.Frag) (Z : Sit) (H : Hp) (S : Store) : Prop where
  len : Z.al.length = S.length
  nod : Z.al.Nodup
  fr : ∀ a, H a = none → Z.P a
  cel : ∀ (n : Nat) (a : Addr), Z.al[n]? = some a → ∃ d : PV, S[n]? = some d ∧ d.isMut = true ∧ Rt w K Z.al H Z.C (.ref a) d
  csub : ∀ a, Z.C a → H a ≠ none ∧ Z.at [] a
  own : ∀ i a, Z.O i = some a → H a ≠ none ∧ a ∉ Z.al
structure EnvOk (X : Cx) (Z : Sit) (σ : L2.St) (H : Hp) (env : EnvV) : Prop where
  len : env.length ≤ σ.length
  get : ∀ (i : Nat) (d : PV), env[i]? = some (some d) → ∃ v, σ[i]? = some (some v) ∧ Rz X.w X.K Z.al H (Z.at [i]) v d ∧ Rt X.w X.K Z.al H (Z.at []) v d
abbrev XtA (Z : Sit) (H H' : Hp) : Prop := Ext (fun a => a ∈ Z.al) H H'
section
variable {X : Cx} {Z : Sit} {H H' : Hp} {S S' : Store} {σ : L2.St} {env : EnvV} {v : V} {d : PV}
theorem rt_some {w : World} {K : PySem.W.Frag} {al : List Addr} {P : Addr → Prop} {a : Addr} (h : Rt w K al H P (.ref a) d) (m : d.isMut = true) : H a ≠ none := by
  cases d with
  | lst l =>
    obtain ⟨b, xs, e, h1, _⟩ := h.list
    cases e
    rw [h1]
    exact fun z => nomatch z
  | dct l =>
    obtain ⟨b, ep, es, e, h1, _⟩ := h.dict
    cases e
    rw [h1]
    exact fun z => nomatch z
  | _ => cases m
theorem StOk.alive (s : StOk X.w X.K Z H S) {a : Addr} (h : a ∈ Z.al) : H a ≠ none := by
  obtain ⟨n, hn⟩ := List.getElem?_of_mem h
  obtain ⟨d, _, m, r⟩ := s.cel n a hn
  exact rt_some r m
theorem StOk.new (s : StOk X.w X.K Z H S) (is : List Nat) : ∀ a, H a = none → Z.at is a := fun a e => ⟨s.fr a e, fun z => s.alive z e, fun i o => absurd e (s.own i a o).1⟩
theorem at_off {is : List Nat} {a : Addr} (h : Z.at is a) : ¬ a ∈ Z.al := h.2.1
/-- what was free is free -/
theorem XtA.free (e : XtA Z H H') (s : StOk X.w X.K Z H' S') {b : Addr} (h : H' b = none) : H b = none := by
  rcases Ext.free e h with z | z
  · exact z
  · exact absurd h (s.alive z)
theorem rz_xt {is : List Nat} (e : XtA Z H H') (h : Rz X.w X.K Z.al H (Z.at is) v d) : Rz X.w X.K Z.al H' (Z.at is) v d := h.ext e fun _ q => at_off q
theorem rzl_xt {is : List Nat} {vs : List V} {ds : List PV} (e : XtA Z H H') (h : RzL X.w X.K Z.al H (Z.at is) vs ds) : RzL X.w X.K Z.al H' (Z.at is) vs ds := h.ext e fun _ q => at_off q
theorem rz_top {is : List Nat} {a : Addr} (h : Rz X.w X.K Z.al H (Z.at is) (.ref a) d) (m : d.isMut = true) : Z.at is a := by
  cases h with
  | lst _ p _ => exact p
  | dct _ p _ => exact p
  | tup _ _ => cases m
  | scr _ => cases m
  | cel _ => cases m
theorem rt_xt {is js : List Nat} (e : XtA Z H H') (t : Rz X.w X.K Z.al H (Z.at js) v d) (h : Rt X.w X.K Z.al H (Z.at is) v d) : Rt X.w X.K Z.al H' (Z.at is) v d := by
  refine h.ext e (fun _ q => at_off q) fun a ea => ?_
  cases m : d.isMut with
  | false => exact .inr rfl
  | true =>
    subst ea
    exact .inl (at_off (rz_top t m))
theorem rz_sub {is js : List Nat} (h : Rz X.w X.K Z.al H (Z.at is) v d) (s : ∀ i ∈ is, i ∈ js) : Rz X.w X.K Z.al H (Z.at js) v d := h.mono fun _ _ _ q => Sit.sub q s
theorem rt_sub {is js : List Nat} (h : Rt X.w X.K Z.al H (Z.at is) v d) (s : ∀ i ∈ is, i ∈ js) : Rt X.w X.K Z.al H (Z.at js) v d := h.mono fun _ _ _ q => Sit.sub q s
theorem rzl_sub {is js : List Nat} {vs : List V} {ds : List PV} (h : RzL X.w X.K Z.al H (Z.at is) vs ds) (s : ∀ i ∈ is, i ∈ js) : RzL X.w X.K Z.al H (Z.at js) vs ds := h.mono fun _ _ _ q => Sit.sub q s
theorem EnvOk.xt (h : EnvOk X Z σ H env) (e : XtA Z H H') : EnvOk X Z σ H' env := ⟨h.len, fun i d q => by
  obtain ⟨v, h1, h2, h3⟩ := h.get i d q
  exact ⟨v, h1, rz_xt e h2, rt_xt e h2 h3⟩⟩
theorem StOk.same (s : StOk X.w X.K Z H S) (e : Same H H') : StOk X.w X.K Z H' S := by
  have st : ∀ a, H a ≠ none → H' a ≠ none := fun a h q => by
    cases k : H a with
    | none => exact h k
    | some ob =>
      rw [e a ob k] at q
      cases q
  refine ⟨s.len, s.nod, fun a q => s.fr a ?_, fun n a q => ?_, fun a c => ⟨st a (s.csub a c).1, (s.csub a c).2⟩, fun i a o => ⟨st a (s.own i a o).1, (s.own i a o).2⟩⟩
  · cases k : H a with
    | none => rfl
    | some o =>
      rw [e a o k] at q
      cases q
  · obtain ⟨d, h1, h2, h3⟩ := s.cel n a q
    exact ⟨d, h1, h2, h3.same e⟩

/-- behind an expression -/
structure Post (X : Cx) (Z : Sit) (H : Hp) (tv pv : List Nat) (fr : Bool) (r : PV) (S' : Store) (v : V) (H' : Hp) : Prop where
  xt : XtA Z H H'
  st : StOk X.w X.K Z H' S'
  rz : Rz X.w X.K Z.al H' (Z.at tv) v r
  rt : Rt X.w X.K Z.al H' (Z.at pv) v r
  fr : fr = true → ∀ a, v = .ref a → H a = none ∨ r.isMut = false
end
/-- what an expression is to reach: what the evaluator gives -/
def tEv (X : Cx) (cf : CallF) (gl : Nat → Option PV) (ce : CE) : TE := fun σ H Q => ∃ (Z : Sit) (env : EnvV) (S : Store) (r : PV) (S' : Store), Ev.evE cf gl env ce S = .ok (r, S') ∧ StOk X.w X.K Z H S ∧ EnvOk X Z σ H env ∧
  ∀ v H', Post X Z H ce.tv ce.pv ce.fresh r S' v H' → Q v H'
def tEvT (X : Cx) (cf : CallF) (gl : Nat → Option PV) (ce : CE) : TT := fun σ H Q => ∃ (Z : Sit) (env : EnvV) (S : Store) (r : PV) (S' : Store) (b : Bool), Ev.evE cf gl env ce S = .ok (r, S') ∧ Ev.truthy r = .ok b ∧ StOk X.w X.K Z H S ∧ EnvOk X Z σ H env ∧
  ∀ H', XtA Z H H' → StOk X.w X.K Z H' S' → Q b H'
structure PostL (X : Cx) (Z : Sit) (H : Hp) (tv : List Nat) (rs : List PV) (S' : Store) (vs : List V) (H' : Hp) : Prop where
  xt : XtA Z H H'
  st : StOk X.w X.K Z H' S'
  rz : RzL X.w X.K Z.al H' (Z.at tv) vs rs
def tEvL (X : Cx) (cf : CallF) (gl : Nat → Option PV) (es : List CE) : TA := fun σ H Q => ∃ (Z : Sit) (env : EnvV) (S : Store) (rs : List PV) (S' : Store), Ev.evL cf gl env es S = .ok (rs, S') ∧ StOk X.w X.K Z H S ∧ EnvOk X Z σ H env ∧
  ∀ vs H', PostL X Z H (Ev.tvL es) rs S' vs H' → Q vs H'
theorem _root_.L2.PE.to {X : Cx} {e : Expr} {t t' : TE} (h : PE X e t) (w : ∀ σ H Q, t' σ H Q → t σ H Q) : PE X e t' := ⟨fun pins s σ H Q I q => h.run pins s σ H Q I (w σ H Q q)⟩
theorem _root_.L2.PT.to {X : Cx} {e : Expr} {t t' : TT} (h : PT X e t) (w : ∀ σ H Q, t' σ H Q → t σ H Q) : PT X e t' := ⟨fun pins s σ H Q I q => h.run pins s σ H Q I (w σ H Q q)⟩
theorem _root_.L2.PW.to {X : Cx} {e : Expr} {t t' : TT} (h : PW X e t) (w : ∀ σ H Q, t' σ H Q → t σ H Q) : PW X e t' := ⟨fun wh pins s σ H Q I q => h.run wh pins s σ H Q I (w σ H Q q)⟩
theorem _root_.L2.PA.to {X : Cx} {e : List Expr} {t t' : TA} (h : PA X e t) (w : ∀ σ H Q, t' σ H Q → t σ H Q) : PA X e t' := ⟨fun pos pins s σ H Q I q => h.run pos pins s σ H Q I (w σ H Q q)⟩
section
variable {X : Cx} {cf : CallF} {gl : Nat → Option PV} {Z : Sit} {H H' : Hp} {S S' : Store} {σ : L2.St} {env : EnvV} {v : V} {d : PV}
/-- a value that is no object that may change, and of no fresh one -/
theorem Post.atom {tv pv : List Nat} {fr : Bool} (s : StOk X.w X.K Z H S) (r : Rz X.w X.K Z.al H (Z.at []) v d) (m : d.isMut = false) : Post X Z H tv pv fr d S v H :=
  ⟨Ext.refl _ _, s, rz_sub r fun _ h => (by cases h), .of (rz_sub r fun _ h => (by cases h)), fun _ _ _ => .inr m⟩
theorem ce_slot {i : Nat} {x : Str} {pos : Pos} (h : PE X (.Name x pos) (tVar i)) : PE X (.Name x pos) (tEv X cf gl (.slot i)) := h.to fun σ H Q ⟨Z, env, S, r, S', e, s, eo, q⟩ => by
  simp only [Ev.evE] at e
  obtain ⟨d, e1, e2⟩ := Res.bind_eq_ok e
  cases e2
  have e1 := ofOpt_ok e1
  have e3 : env[i]? = some (some r) := by
    cases k : env[i]? with
    | none => rw [k] at e1; cases e1
    | some o =>
      rw [k] at e1
      simp at e1
      rw [e1]
  obtain ⟨v, h1, h2, h3⟩ := eo.get i r e3
  exact ⟨v, h1, q v H ⟨Ext.refl _ _, s, h2, h3, fun z => by cases z⟩⟩
theorem ce_int {i : Int} {j : Nat} {pos : Pos} : PE X (.Constant (.int i) j pos) (tEv X cf gl (.int i)) := pe_int.to fun σ H Q ⟨Z, env, S, r, S', e, s, eo, q⟩ => by
  simp only [Ev.evE] at e
  cases e
  exact q _ _ (.atom s (.int i) rfl)
theorem ce_bl {i : Bool} {j : Nat} {pos : Pos} : PE X (.Constant (.bool i) j pos) (tEv X cf gl (.bl i)) := pe_bl.to fun σ H Q ⟨Z, env, S, r, S', e, s, eo, q⟩ => by
  simp only [Ev.evE] at e
  cases e
  exact q _ _ (.atom s (.bl i) rfl)
theorem ce_non {j : Nat} {pos : Pos} : PE X (.Constant .none j pos) (tEv X cf gl .non) := pe_non.to fun σ H Q ⟨Z, env, S, r, S', e, s, eo, q⟩ => by
  simp only [Ev.evE] at e
  cases e
  exact q _ _ (.atom s .non rfl)
theorem ce_str {x : List Nat} {j : Nat} {pos : Pos} (hl : x.length ≤ sizeLine) : PE X (.Constant (.str (toS x)) j pos) (tEv X cf gl (.str x)) := pe_str.to fun σ H Q ⟨Z, env, S, r, S', e, s, eo, q⟩ => by
  simp only [Ev.evE] at e
  cases e
  exact q _ _ (.atom s (.str x hl) rfl)
/-- from a wished end to the post of the whole -/
theorem Yes.post {Z : Sit} {H0 : Hp} {tv pv : List Nat} {fr b : Bool} {r : PV} {Q : VK} (x : XtA Z H0 H) (s : StOk X.w X.K Z H S) (hb : b = true → fr = true) (hs : ∀ i ∈ pv, i ∈ tv)
    (q : ∀ v H', Post X Z H0 tv pv b r S v H' → Q v H') : Yes X.w X.K Z.al H (Z.at pv) fr r Q := fun v H' sm rz f => by
  have s' := s.same sm
  refine q v H' ⟨x.trans (Ext.same sm), s', rz_sub rz hs, .of rz, fun hb' a e => ?_⟩
  rcases f (hb hb') a e with z | z
  · exact .inl (XtA.free x s z)
  · exact .inr z
theorem rBin_to {f : PV → PV → Res PV} {a b : PV} {x y : V} {ia ib tv pv : List Nat} {fr : Bool} {r : PV} {Q : VK} {H0 : Hp} (x1 : XtA Z H0 H) (s : StOk X.w X.K Z H S) (ra : Rt X.w X.K Z.al H (Z.at ia) x a) (rb : Rt X.w X.K Z.al H (Z.at ib) y b) (e : f a b = .ok r)
    (ha : ∀ i ∈ ia, i ∈ pv) (hb : ∀ i ∈ ib, i ∈ pv) (hs : ∀ i ∈ pv, i ∈ tv) (q : ∀ v H', Post X Z H0 tv pv fr r S v H' → Q v H') : rBin X.w X.K Z.al (Z.at pv) f x y H Q :=
  ⟨a, b, r, rt_sub ra ha, rt_sub rb hb, e, s.new pv, Yes.post x1 s (fun _ => rfl) hs q⟩
theorem ce_bin {op : Ev.Bop} {a b : Expr} {ca cb : CE} {pos : Pos} (ha : PE X a (tEv X cf gl ca)) (hb : PE X b (tEv X cf gl cb)) : PE X (.BinOp a (pyB op) b pos) (tEv X cf gl (.bin op ca cb)) := by
  refine ⟨fun pins s σ H Q I ⟨Z, env, S, r, S', e, st, eo, q⟩ => ?_⟩
  simp only [Ev.evE] at e
  obtain ⟨⟨x, S1⟩, e1, e⟩ := Res.bind_eq_ok e
  obtain ⟨⟨y, S2⟩, e2, e⟩ := Res.bind_eq_ok e
  obtain ⟨r', e3, e⟩ := Res.bind_eq_ok e
  cases e
  refine (pe_op (op_binop (al := Z.al) (P := Z.at (ca.pv ++ cb.pv)) op) ha hb).run pins s σ H Q I ⟨Z, env, S, x, S1, e1, st, eo, fun v H1 p1 => ⟨Z, env, S1, y, S2, e2, p1.st, eo.xt p1.xt, fun u H2 p2 => ?_⟩⟩
  exact rBin_to (p1.xt.trans p2.xt) p2.st (rt_xt p2.xt p1.rz p1.rt) p2.rt e3 (fun i h => List.mem_append_left _ h) (fun i h => List.mem_append_right _ h) (fun i h => h) fun v H' (p : Post _ _ _ _ _ true _ _ _ _) => q v H' ⟨p.xt, p.st, p.rz, p.rt, fun _ => p.fr rfl⟩
end
end EvB
end

section
set_option autoImplicit false
set_option Elab.async false
set_option linter.all false
set_option maxRecDepth 100000
set_option maxHeartbeats 1000000
namespace EvB
open PySem PySem.Spec PyProof.Rows L2
open Ev (PV Store Res EnvV CallF CE)
theorem bindP {α β γ : Type} {x : Res (α × β)} {f : α × β → Res γ} {r : γ} (h : (x >>= f) = .ok r) : ∃ a b, x = .ok (a, b) ∧ f (a, b) = .ok r := by
  obtain ⟨⟨a, b⟩, h1, h2⟩ := Res.bind_eq_ok h
  exact ⟨a, b, h1, h2⟩
section
variable {X : Cx} {cf : CallF} {gl : Nat → Option PV} {a b c e : Expr} {ca cb cc : CE} {pos : Pos}
/-- a test by the value's truth -/
theorem ct_val (ha : PE X a (tEv X cf gl ca)) (he : ∀ whole, isTrue a X.env whole = (do let v ← whole; standAt a.pos; holding [v] (truthy v))) : PT X a (tEvT X cf gl ca) := by
  refine (pt_truth ha he).to fun σ H Q ⟨Z, env, S, r, S', k, e1, e2, st, eo, q⟩ => ⟨Z, env, S, r, S', e1, st, eo, fun v H' p => ⟨k, tru_rt p.rt e2, q H' p.xt p.st⟩⟩
theorem not_inv {env : EnvV} {S S' : Store} {r : PV} (h : Ev.evE cf gl env (.not ca) S = .ok (r, S')) : ∃ x t, Ev.evE cf gl env ca S = .ok (x, S') ∧ Ev.truthy x = .ok t ∧ r = .bl !t := by
  simp only [Ev.evE] at h
  obtain ⟨x, S1, h1, h⟩ := bindP h
  dsimp only at h
  obtain ⟨t, h2, h⟩ := Res.bind_eq_ok h
  cases h
  exact ⟨x, t, h1, h2, rfl⟩
theorem ct_not (ha : PT X a (tEvT X cf gl ca)) : PT X (.UnaryOp .Not a pos) (tEvT X cf gl (.not ca)) := by
  refine (pt_not ha).to fun σ H Q ⟨Z, env, S, r, S', k, e1, e2, st, eo, q⟩ => ?_
  obtain ⟨x, t, h1, h2, rfl⟩ := not_inv e1
  cases e2
  exact ⟨Z, env, S, x, S', t, h1, h2, st, eo, fun H' x1 s1 => q H' x1 s1⟩
theorem ce_not (ha : PE X a (tEv X cf gl ca)) : PE X (.UnaryOp .Not a pos) (tEv X cf gl (.not ca)) := by
  refine ⟨fun pins s σ H Q I ⟨Z, env, S, r, S', e1, st, eo, q⟩ => ?_⟩
  obtain ⟨x, t, h1, h2, rfl⟩ := not_inv e1
  refine UnaryOp_ (thn (ha.run pins s σ H (fun v H1 => TruV X.K v H1 t ∧ XtA Z H H1 ∧ StOk X.w X.K Z H1 S') I ⟨Z, env, S, x, S', h1, st, eo, fun v H1 p => ⟨tru_rt p.rt h2, p.xt, p.st⟩⟩) fun v s1 ⟨y, H1, I1, r1, tv, x1, st1⟩ => ?_)
  refine not_of (thn (tru_ok pins s1 σ H1 y v (fun k H2 => k = t ∧ H2 = H1) I1 r1 ⟨t, tv, rfl, rfl⟩) fun k2 s2 ⟨H2, I2, ek, eH⟩ => ?_)
  subst ek eH
  exact ⟨.bl (!k2), H2, I2, rfl, q _ _ ⟨x1, st1, .bl _, .of (.bl _), fun _ _ z => by cases z⟩⟩
theorem Post.sub {Z : Sit} {H H' : Hp} {tv pv tv' pv' : List Nat} {fr fr' : Bool} {r : PV} {S' : Store} {v : V} (p : Post X Z H tv pv fr r S' v H') (h1 : ∀ i ∈ tv, i ∈ tv') (h2 : ∀ i ∈ pv, i ∈ pv') (h3 : fr' = true → fr = true) : Post X Z H tv' pv' fr' r S' v H' :=
  ⟨p.xt, p.st, rz_sub p.rz h1, rt_sub p.rt h2, fun z => p.fr (h3 z)⟩
theorem Post.back {Z : Sit} {H H1 H' : Hp} {tv pv : List Nat} {fr : Bool} {r : PV} {S' : Store} {v : V} (x : XtA Z H H1) {S1 : Store} (s1 : StOk X.w X.K Z H1 S1) (p : Post X Z H1 tv pv fr r S' v H') : Post X Z H tv pv fr r S' v H' :=
  ⟨x.trans p.xt, p.st, p.rz, p.rt, fun z a e => (p.fr z a e).imp (fun k => XtA.free x s1 k) id⟩
theorem ite_inv {env : EnvV} {S S' : Store} {r : PV} (h : Ev.evE cf gl env (.ite cc ca cb) S = .ok (r, S')) : ∃ x t S1, Ev.evE cf gl env cc S = .ok (x, S1) ∧ Ev.truthy x = .ok t ∧ Ev.evE cf gl env (if t then ca else cb) S1 = .ok (r, S') := by
  simp only [Ev.evE] at h
  obtain ⟨x, S1, h1, h⟩ := bindP h
  dsimp only at h
  obtain ⟨t, h2, h⟩ := Res.bind_eq_ok h
  refine ⟨x, t, S1, h1, h2, ?_⟩
  cases t <;> exact h
theorem ce_ite (hc : PT X c (tEvT X cf gl cc)) (ha : PE X a (tEv X cf gl ca)) (hb : PE X b (tEv X cf gl cb)) : PE X (.IfExp c a b pos) (tEv X cf gl (.ite cc ca cb)) := by
  refine (pe_ifExp hc ha hb).to fun σ H Q ⟨Z, env, S, r, S', e1, st, eo, q⟩ => ?_
  obtain ⟨x, t, S1, h1, h2, h3⟩ := ite_inv e1
  refine ⟨Z, env, S, x, S1, t, h1, h2, st, eo, fun H1 x1 s1 => ?_⟩
  cases t with
  | true =>
    rw [if_pos rfl]
    exact ⟨Z, env, S1, r, S', h3, s1, eo.xt x1, fun v H' p => q v H' ((p.back x1 s1).sub (fun i h => List.mem_append_left _ h) (fun i h => List.mem_append_left _ h) fun z => (Bool.and_eq_true_iff.mp z).1)⟩
  | false =>
    rw [if_neg Bool.false_ne_true]
    exact ⟨Z, env, S1, r, S', h3, s1, eo.xt x1, fun v H' p => q v H' ((p.back x1 s1).sub (fun i h => List.mem_append_right _ h) (fun i h => List.mem_append_right _ h) fun z => (Bool.and_eq_true_iff.mp z).2)⟩
theorem isTrue_if {M : Model} {A : Around} {env : Env} {wh : Sem Value} {Q : Bool → Shared → Prop} {E : Value → Shared → Prop} {s : Shared} (h : wpAny M A (isTrue c env (eval c env)) (fun t s1 => wpAny M A (if t = true then isTrue a env (eval a env) else isTrue b env (eval b env)) Q E s1) E s) :
    wpAny M A (isTrue (.IfExp c a b pos) env wh) Q E s := by
  show wpAny M A (isTrue c env (eval c env) >>= fun t => if t = true then isTrue a env (eval a env) else isTrue b env (eval b env)) Q E s
  exact wpAny_bind h
theorem ct_ite (hc : PT X c (tEvT X cf gl cc)) (ha : PT X a (tEvT X cf gl ca)) (hb : PT X b (tEvT X cf gl cb)) : PT X (.IfExp c a b pos) (tEvT X cf gl (.ite cc ca cb)) := by
  refine ⟨fun pins s σ H Q I ⟨Z, env, S, r, S', k, e1, e2, st, eo, q⟩ => ?_⟩
  obtain ⟨x, t, S1, h1, h2, h3⟩ := ite_inv e1
  refine isTrue_if (thn (hc.run pins s σ H (fun k H1 => k = t ∧ XtA Z H H1 ∧ StOk X.w X.K Z H1 S1) I ⟨Z, env, S, x, S1, t, h1, h2, st, eo, fun H1 x1 s1 => ⟨rfl, x1, s1⟩⟩) fun d s1 ⟨H1, I1, ek, x1, st1⟩ => ?_)
  subst ek
  cases d with
  | true => exact ha.run pins s1 σ H1 Q I1 ⟨Z, env, S1, r, S', k, h3, e2, st1, eo.xt x1, fun H' x2 s2 => q H' (x1.trans x2) s2⟩
  | false => exact hb.run pins s1 σ H1 Q I1 ⟨Z, env, S1, r, S', k, h3, e2, st1, eo.xt x1, fun H' x2 s2 => q H' (x1.trans x2) s2⟩

/-! ### and, or -/
def tG (X : Cx) (f : EnvV → Store → Res (PV × Store)) (tv pv : List Nat) (fr : Bool) : TE := fun σ H Q => ∃ (Z : Sit) (env : EnvV) (S : Store) (r : PV) (S' : Store), f env S = .ok (r, S') ∧ StOk X.w X.K Z H S ∧ EnvOk X Z σ H env ∧
  ∀ v H', Post X Z H tv pv fr r S' v H' → Q v H'
def tGT (X : Cx) (f : EnvV → Store → Res (PV × Store)) : TT := fun σ H Q => ∃ (Z : Sit) (env : EnvV) (S : Store) (r : PV) (S' : Store) (b : Bool), f env S = .ok (r, S') ∧ Ev.truthy r = .ok b ∧ StOk X.w X.K Z H S ∧ EnvOk X Z σ H env ∧
  ∀ H', XtA Z H H' → StOk X.w X.K Z H' S' → Q b H'
theorem and_inv {c1 c2 : CE} {r : List CE} {env : EnvV} {S S' : Store} {v : PV} (h : Ev.evAnd cf gl env (c1 :: c2 :: r) S = .ok (v, S')) :
    ∃ x t S1, Ev.evE cf gl env c1 S = .ok (x, S1) ∧ Ev.truthy x = .ok t ∧ ((t = true ∧ Ev.evAnd cf gl env (c2 :: r) S1 = .ok (v, S')) ∨ (t = false ∧ x = v ∧ S1 = S')) := by
  simp only [Ev.evAnd] at h
  obtain ⟨x, S1, h1, h⟩ := bindP h
  dsimp only at h
  obtain ⟨t, h2, h⟩ := Res.bind_eq_ok h
  refine ⟨x, t, S1, h1, h2, ?_⟩
  cases t with
  | true => exact .inl ⟨rfl, h⟩
  | false =>
    cases h
    exact .inr ⟨rfl, rfl, rfl⟩
theorem or_inv {c1 c2 : CE} {r : List CE} {env : EnvV} {S S' : Store} {v : PV} (h : Ev.evOr cf gl env (c1 :: c2 :: r) S = .ok (v, S')) :
    ∃ x t S1, Ev.evE cf gl env c1 S = .ok (x, S1) ∧ Ev.truthy x = .ok t ∧ ((t = false ∧ Ev.evOr cf gl env (c2 :: r) S1 = .ok (v, S')) ∨ (t = true ∧ x = v ∧ S1 = S')) := by
  simp only [Ev.evOr] at h
  obtain ⟨x, S1, h1, h⟩ := bindP h
  dsimp only at h
  obtain ⟨t, h2, h⟩ := Res.bind_eq_ok h
  refine ⟨x, t, S1, h1, h2, ?_⟩
  cases t with
  | false => exact .inl ⟨rfl, h⟩
  | true =>
    cases h
    exact .inr ⟨rfl, rfl, rfl⟩
abbrev PEL (X : Cx) (cf : CallF) (gl : Nat → Option PV) : List Expr → List CE → Prop := Paired fun e c => PE X e (tEv X cf gl c)
abbrev PTL (X : Cx) (cf : CallF) (gl : Nat → Option PV) : List Expr → List CE → Prop := Paired fun e c => PT X e (tEvT X cf gl c)
theorem ce_andL : ∀ {es : List Expr} {cs : List CE}, PEL X cf gl es cs → PE X (.BoolOp .And es pos) (tG X (fun env S => Ev.evAnd cf gl env cs S) (Ev.tvL cs) (Ev.pvL cs) false)
  | _, _, .nil => ⟨fun pins s σ H Q I ⟨Z, env, S, r, S', e, _⟩ => by simp [Ev.evAnd] at e⟩
  | _, _, .cons (a := a) (b := c) h .nil => (pe_one h).to fun σ H Q ⟨Z, env, S, r, S', e, st, eo, q⟩ => ⟨Z, env, S, r, S', by simpa [Ev.evAnd] using e, st, eo, fun v H' p => q v H' (p.sub (fun i hi => by simpa [Ev.tvL] using hi) (fun i hi => by simpa [Ev.pvL] using hi) fun z => by cases z)⟩
  | _, _, .cons (a := a) (b := c) h (.cons (a := a2) (b := c2) (l₁ := as) (l₂ := bs) h2 t) => by
    have ih := ce_andL (.cons h2 t)
    refine ⟨fun pins s σ H Q I ⟨Z, env, S, r, S', e, st, eo, q⟩ => ?_⟩
    obtain ⟨x, k, S1, e1, e2, e3⟩ := and_inv e
    refine BoolOp_and (thn (h.run pins s σ H (fun v H1 => TruV X.K v H1 k ∧ Post X Z H c.tv c.pv c.fresh x S1 v H1) I ⟨Z, env, S, x, S1, e1, st, eo, fun v H1 p => ⟨tru_rt p.rt e2, p⟩⟩) fun v s1 ⟨y, H1, I1, r1, tv, p⟩ => ?_)
    refine thn (tru_ok pins s1 σ H1 y v (fun k2 H2 => k2 = k ∧ H2 = H1) I1 r1 ⟨k, tv, rfl, rfl⟩) fun k2 s2 ⟨H2, I2, ek, eH⟩ => ?_
    subst ek eH
    rcases e3 with ⟨rfl, e3⟩ | ⟨rfl, rfl, rfl⟩
    · rw [if_pos rfl]
      refine ih.run pins s2 σ H2 Q I2 ⟨Z, env, S1, r, S', e3, p.st, eo.xt p.xt, fun v' H' p' => q v' H' ((p'.back p.xt p.st).sub (fun i hi => ?_) (fun i hi => ?_) id)⟩
      · rw [Ev.tvL]; exact List.mem_append_right _ hi
      · rw [Ev.pvL]; exact List.mem_append_right _ hi
    · rw [if_neg Bool.false_ne_true]
      refine ⟨y, H2, I2, r1, q _ _ (p.sub (fun i hi => ?_) (fun i hi => ?_) fun z => by cases z)⟩
      · rw [Ev.tvL]; exact List.mem_append_left _ hi
      · rw [Ev.pvL]; exact List.mem_append_left _ hi
theorem ce_orL : ∀ {es : List Expr} {cs : List CE}, PEL X cf gl es cs → PE X (.BoolOp .Or es pos) (tG X (fun env S => Ev.evOr cf gl env cs S) (Ev.tvL cs) (Ev.pvL cs) false)
  | _, _, .nil => ⟨fun pins s σ H Q I ⟨Z, env, S, r, S', e, _⟩ => by simp [Ev.evOr] at e⟩
  | _, _, .cons (a := a) (b := c) h .nil => (pe_one h).to fun σ H Q ⟨Z, env, S, r, S', e, st, eo, q⟩ => ⟨Z, env, S, r, S', by simpa [Ev.evOr] using e, st, eo, fun v H' p => q v H' (p.sub (fun i hi => by simpa [Ev.tvL] using hi) (fun i hi => by simpa [Ev.pvL] using hi) fun z => by cases z)⟩
  | _, _, .cons (a := a) (b := c) h (.cons (a := a2) (b := c2) (l₁ := as) (l₂ := bs) h2 t) => by
    have ih := ce_orL (.cons h2 t)
    refine ⟨fun pins s σ H Q I ⟨Z, env, S, r, S', e, st, eo, q⟩ => ?_⟩
    obtain ⟨x, k, S1, e1, e2, e3⟩ := or_inv e
    refine BoolOp_or (thn (h.run pins s σ H (fun v H1 => TruV X.K v H1 k ∧ Post X Z H c.tv c.pv c.fresh x S1 v H1) I ⟨Z, env, S, x, S1, e1, st, eo, fun v H1 p => ⟨tru_rt p.rt e2, p⟩⟩) fun v s1 ⟨y, H1, I1, r1, tv, p⟩ => ?_)
    refine thn (tru_ok pins s1 σ H1 y v (fun k2 H2 => k2 = k ∧ H2 = H1) I1 r1 ⟨k, tv, rfl, rfl⟩) fun k2 s2 ⟨H2, I2, ek, eH⟩ => ?_
    subst ek eH
    rcases e3 with ⟨rfl, e3⟩ | ⟨rfl, rfl, rfl⟩
    · rw [if_neg Bool.false_ne_true]
      refine ih.run pins s2 σ H2 Q I2 ⟨Z, env, S1, r, S', e3, p.st, eo.xt p.xt, fun v' H' p' => q v' H' ((p'.back p.xt p.st).sub (fun i hi => ?_) (fun i hi => ?_) id)⟩
      · rw [Ev.tvL]; exact List.mem_append_right _ hi
      · rw [Ev.pvL]; exact List.mem_append_right _ hi
    · rw [if_pos rfl]
      refine ⟨y, H2, I2, r1, q _ _ (p.sub (fun i hi => ?_) (fun i hi => ?_) fun z => by cases z)⟩
      · rw [Ev.tvL]; exact List.mem_append_left _ hi
      · rw [Ev.pvL]; exact List.mem_append_left _ hi
theorem ct_andL : ∀ {es : List Expr} {cs : List CE}, PTL X cf gl es cs → PW X (.BoolOp .And es pos) (tGT X fun env S => Ev.evAnd cf gl env cs S)
  | _, _, .nil => ⟨fun wh pins s σ H Q I ⟨Z, env, S, r, S', b, e, _⟩ => by simp [Ev.evAnd] at e⟩
  | _, _, .cons (a := a) (b := c) h .nil => (pw_and1 h).to fun σ H Q ⟨Z, env, S, r, S', b, e, e2, st, eo, q⟩ => ⟨Z, env, S, r, S', b, by simpa [Ev.evAnd] using e, e2, st, eo, q⟩
  | _, _, .cons (a := a) (b := c) h (.cons (a := a2) (b := c2) (l₁ := as) (l₂ := bs) h2 t) => by
    refine (pw_and h (ct_andL (.cons h2 t))).to fun σ H Q ⟨Z, env, S, r, S', b, e, eb, st, eo, q⟩ => ?_
    obtain ⟨x, k, S1, e1, e2, e3⟩ := and_inv e
    refine ⟨Z, env, S, x, S1, k, e1, e2, st, eo, fun H1 x1 s1 => ?_⟩
    rcases e3 with ⟨rfl, e3⟩ | ⟨rfl, rfl, rfl⟩
    · rw [if_pos rfl]
      exact ⟨Z, env, S1, r, S', b, e3, eb, s1, eo.xt x1, fun H' x2 s2 => q H' (x1.trans x2) s2⟩
    · rw [if_neg Bool.false_ne_true]
      rw [e2] at eb
      cases eb
      exact q H1 x1 s1
theorem ct_orL : ∀ {es : List Expr} {cs : List CE}, PTL X cf gl es cs → PW X (.BoolOp .Or es pos) (tGT X fun env S => Ev.evOr cf gl env cs S)
  | _, _, .nil => ⟨fun wh pins s σ H Q I ⟨Z, env, S, r, S', b, e, _⟩ => by simp [Ev.evOr] at e⟩
  | _, _, .cons (a := a) (b := c) h .nil => (pw_or1 h).to fun σ H Q ⟨Z, env, S, r, S', b, e, e2, st, eo, q⟩ => ⟨Z, env, S, r, S', b, by simpa [Ev.evOr] using e, e2, st, eo, q⟩
  | _, _, .cons (a := a) (b := c) h (.cons (a := a2) (b := c2) (l₁ := as) (l₂ := bs) h2 t) => by
    refine (pw_or h (ct_orL (.cons h2 t))).to fun σ H Q ⟨Z, env, S, r, S', b, e, eb, st, eo, q⟩ => ?_
    obtain ⟨x, k, S1, e1, e2, e3⟩ := or_inv e
    refine ⟨Z, env, S, x, S1, k, e1, e2, st, eo, fun H1 x1 s1 => ?_⟩
    rcases e3 with ⟨rfl, e3⟩ | ⟨rfl, rfl, rfl⟩
    · rw [if_neg Bool.false_ne_true]
      exact ⟨Z, env, S1, r, S', b, e3, eb, s1, eo.xt x1, fun H' x2 s2 => q H' (x1.trans x2) s2⟩
    · rw [if_pos rfl]
      rw [e2] at eb
      cases eb
      exact q H1 x1 s1
/-! ### displays of tuples and lists -/
def notStar : Expr → Bool
  | .Starred _ _ => false
  | _ => true
theorem starEach_cons {env : Env} {es : List Expr} (h : notStar e = true) : starEach (e :: es) env = (false, eval e env) :: starEach es env := by
  cases e <;> first | rfl | cases h
theorem ce_args : ∀ {es : List Expr} {cs : List CE}, PEL X cf gl es cs → es.all notStar = true → PA X es (tEvL X cf gl cs)
  | _, _, .nil, _ => pa_nil.to fun σ H Q ⟨Z, env, S, rs, S', e, st, eo, q⟩ => by
    simp only [Ev.evL] at e
    cases e
    exact q [] H ⟨Ext.refl _ _, st, .nil⟩
  | _, _, .cons (a := a) (b := c) (l₁ := as) (l₂ := bs) h t, hs => by
    obtain ⟨hs1, hs2⟩ := Bool.and_eq_true_iff.mp (show (notStar a && as.all notStar) = true from hs)
    refine (pa_cons h (ce_args t hs2) (starEach_cons hs1)).to fun σ H Q ⟨Z, env, S, rs, S', e, st, eo, q⟩ => ?_
    simp only [Ev.evL] at e
    obtain ⟨x, S1, e1, e⟩ := bindP e
    dsimp only at e
    obtain ⟨xs, S2, e2, e⟩ := bindP e
    dsimp only at e
    cases e
    refine ⟨Z, env, S, x, S1, e1, st, eo, fun v H1 p => ⟨Z, env, S1, xs, S', e2, p.st, eo.xt p.xt, fun vs H2 p2 => q _ _ ⟨p.xt.trans p2.xt, p2.st, .cons (rz_sub (rz_xt p2.xt p.rz) fun i hi => ?_) (rzl_sub p2.rz fun i hi => ?_)⟩⟩⟩
    · rw [Ev.tvL]; exact List.mem_append_left _ hi
    · rw [Ev.tvL]; exact List.mem_append_right _ hi
theorem ce_tup {es : List Expr} {cs : List CE} {k : Nat} (h : PA X es (tEvL X cf gl cs)) : PE X (.Tuple es k pos) (tEv X cf gl (.tup cs)) := by
  refine (pe_tup h).to fun σ H Q ⟨Z, env, S, r, S', e, st, eo, q⟩ => ?_
  simp only [Ev.evE] at e
  obtain ⟨xs, S1, e1, e⟩ := bindP e
  dsimp only at e
  obtain ⟨f, e⟩ := need_bind e
  cases e
  refine ⟨Z, env, S, xs, S', e1, st, eo, fun vs H1 p => ⟨by rw [p.rz.length]; exact fits_le f, fun a np => q _ _ ?_⟩⟩
  have sm : Same H1 (upd H1 a (.tup vs)) := same_new np
  have rz : Rz X.w X.K Z.al (upd H1 a (.tup vs)) (Z.at (Ev.tvL cs)) (.ref a) (.tup xs) := .tup (.inl (.inl upd_same)) (p.rz.same sm)
  exact ⟨p.xt.trans (Ext.same sm), p.st.same sm, rz, .of rz, fun z => by cases z⟩
theorem ce_lst {es : List Expr} {cs : List CE} (h : PA X es (tEvL X cf gl cs)) : PE X (.List es pos) (tEv X cf gl (.lst cs)) := by
  refine (pe_lst h).to fun σ H Q ⟨Z, env, S, r, S', e, st, eo, q⟩ => ?_
  simp only [Ev.evE] at e
  obtain ⟨xs, S1, e1, e⟩ := bindP e
  dsimp only at e
  obtain ⟨f, e⟩ := need_bind e
  cases e
  refine ⟨Z, env, S, xs, S', e1, st, eo, fun vs H1 p => ⟨by rw [p.rz.length]; exact fits_le f, fun a np => q _ _ ?_⟩⟩
  have sm : Same H1 (upd H1 a (.lst vs)) := same_new np
  have rz : Rz X.w X.K Z.al (upd H1 a (.lst vs)) (Z.at (Ev.tvL cs)) (.ref a) (.lst xs) := .lst upd_same (p.st.new _ a np) (p.rz.same sm)
  exact ⟨p.xt.trans (Ext.same sm), p.st.same sm, rz, .of rz, fun _ b eb => by cases eb; exact .inl (XtA.free p.xt p.st np)⟩
theorem ce_neg (ha : PE X a (tEv X cf gl ca)) : PE X (.UnaryOp .USub a pos) (tEv X cf gl (.neg ca)) := by
  refine (pe_un un_neg ha).to fun σ H Q ⟨Z, env, S, r, S', e, st, eo, q⟩ => ?_
  simp only [Ev.evE] at e
  obtain ⟨x, S1, e1, e⟩ := bindP e
  dsimp only at e
  cases x <;> first | cases e | skip
  rename_i i
  refine ⟨Z, env, S, .int i, S', e1, st, eo, fun v H1 p => ⟨i, p.rt.intE, q _ _ ⟨p.xt, p.st, .int _, .of (.int _), fun z => by cases z⟩⟩⟩
end
end EvB
end

section
set_option autoImplicit false
set_option Elab.async false
set_option linter.all false
set_option maxRecDepth 100000
set_option maxHeartbeats 1000000
namespace EvB
open PySem PySem.Spec PyProof.Rows L2
open Ev (PV Store Res EnvV CallF CE)
def pyC : Ev.Cop → CmpOp
  | .eq => .Eq | .ne => .NotEq | .lt => .Lt | .le => .LtE | .gt => .Gt | .ge => .GtE | .mem => .In | .nmem => .NotIn | .is => .Is | .isn => .IsNot
section
variable {X : Cx} {al : List Addr} {P : Addr → Prop}
theorem mem_kinds {a b : PV} {r : Bool} (h : Ev.memE a b = .ok r) : ((∃ l, b = .lst l) ∨ ∃ l, b = .tup l) ∨ (∃ l, b = .dct l) ∨ ∃ c t, a = .str [c] ∧ b = .str t ∧ r = decide (c ∈ t) := by
  cases b with
  | lst l => exact .inl (.inl ⟨l, rfl⟩)
  | tup l => exact .inl (.inr ⟨l, rfl⟩)
  | dct l => exact .inr (.inl ⟨l, rfl⟩)
  | str t =>
    refine .inr (.inr ?_)
    cases a with
    | str z =>
      match z, h with
      | [c], h =>
        cases h
        exact ⟨c, t, rfl, rfl, rfl⟩
    | _ => cases h
  | _ => cases a <;> simp [Ev.memE] at h
theorem op_cmpop (hu : X.A.units + 64 < cLine) (op : Ev.Cop) : OpR X (compareOp (pyC op)) (rCmp X.w X.K al P (Ev.cmpop op)) := by
  intro pins s σ H x y v u Q I rx ry h
  obtain ⟨a, b, r, ha, hb, e, q⟩ := h
  have nd : ∀ {r : Bool}, Ev.eqE a b = .ok r → ∀ u v, ¬ (a = .dct u ∧ b = .dct v) := fun {r} e u v z => by
    obtain ⟨rfl, rfl⟩ := z
    cases e
  cases op with
  | eq => exact cmp_eq hu pins s σ H x y v u Q I rx ry ⟨a, b, r, ha, hb, nd e, e, q⟩
  | ne =>
    have e' := res_not e
    exact cmp_ne hu pins s σ H x y v u Q I rx ry ⟨a, b, !r, ha, hb, nd e', e', by rw [Bool.not_not]; exact q⟩
  | lt => exact cmp_lt hu pins s σ H x y v u Q I rx ry ⟨a, b, r, ha, hb, e, q⟩
  | le => exact cmp_le hu pins s σ H x y v u Q I rx ry ⟨a, b, r, ha, hb, e, q⟩
  | gt => exact cmp_gt hu pins s σ H x y v u Q I rx ry ⟨a, b, r, ha, hb, e, q⟩
  | ge => exact cmp_ge hu pins s σ H x y v u Q I rx ry ⟨a, b, r, ha, hb, e, q⟩
  | is => exact cmp_is pins s σ H x y v u Q I rx ry ⟨a, b, r, ha, hb, e, q⟩
  | isn => exact cmp_isn pins s σ H x y v u Q I rx ry ⟨a, b, r, ha, hb, e, q⟩
  | mem =>
    rcases mem_kinds e with hs | ⟨l, rfl⟩ | ⟨c, t, rfl, rfl, rfl⟩
    · exact cmp_in hu pins s σ H x y v u Q I rx ry ⟨a, b, r, ha, hb, hs, e, q⟩
    · exact cmp_inD hu pins s σ H x y v u Q I rx ry ⟨a, l, r, ha, hb, e, q⟩
    · exact cmp_inS pins s σ H x y v u Q I rx ry ⟨c, t, ha, hb, q⟩
  | nmem =>
    have e' := res_not e
    rcases mem_kinds e' with hs | ⟨l, rfl⟩ | ⟨c, t, rfl, rfl, hr⟩
    · exact cmp_notIn hu pins s σ H x y v u Q I rx ry ⟨a, b, !r, ha, hb, hs, e', by rw [Bool.not_not]; exact q⟩
    · exact cmp_notInD hu pins s σ H x y v u Q I rx ry ⟨a, l, !r, ha, hb, e', by rw [Bool.not_not]; exact q⟩
    · exact cmp_notInS pins s σ H x y v u Q I rx ry ⟨c, t, ha, hb, by rw [← hr, Bool.not_not]; exact q⟩
theorem ix_any (hu : X.A.units + 64 < cLine) : IxR X (fun x y H Q => ∃ a b r, Rt X.w X.K al H P x a ∧ Rt X.w X.K al H P y b ∧ Ev.subscr a b = .ok r ∧ Yes X.w X.K al H P false r Q) := by
  intro value slice pins s σ H x y v u Q I rx ry h hs
  obtain ⟨a, b, r, ha, hb, e, q⟩ := h
  by_cases d : ∃ l, a = .dct l
  · obtain ⟨l, rfl⟩ := d
    exact ix_dct hu value slice pins s σ H x y v u Q I rx ry ⟨l, b, r, ha, hb, e, q⟩ hs
  · exact ix_all value slice pins s σ H x y v u Q I rx ry ⟨a, b, r, ha, hb, fun l z => d ⟨l, z⟩, e, q⟩ hs
end
section
variable {X : Cx} {cf : CallF} {gl : Nat → Option PV} {a b c e : Expr} {ca cb cc : CE} {pos : Pos}
theorem cmp_inv {op : Ev.Cop} {env : EnvV} {S S' : Store} {r : PV} (h : Ev.evE cf gl env (.cmp op ca cb) S = .ok (r, S')) : ∃ x S1 y k, Ev.evE cf gl env ca S = .ok (x, S1) ∧ Ev.evE cf gl env cb S1 = .ok (y, S') ∧ Ev.cmpop op x y = .ok k ∧ r = .bl k := by
  simp only [Ev.evE] at h
  obtain ⟨x, S1, h1, h⟩ := bindP h
  dsimp only at h
  obtain ⟨y, S2, h2, h⟩ := bindP h
  dsimp only at h
  obtain ⟨k, h3, h⟩ := Res.bind_eq_ok h
  cases h
  exact ⟨x, S1, y, k, h1, h2, h3, rfl⟩
theorem cmp_to {Z : Sit} {op : Ev.Cop} {env : EnvV} {S S1 S' : Store} {x y : PV} {k : Bool} {σ : L2.St} {H : Hp} {Q : VK} (h1 : Ev.evE cf gl env ca S = .ok (x, S1)) (h2 : Ev.evE cf gl env cb S1 = .ok (y, S')) (h3 : Ev.cmpop op x y = .ok k) (st : StOk X.w X.K Z H S) (eo : EnvOk X Z σ H env)
    (q : ∀ H', XtA Z H H' → StOk X.w X.K Z H' S' → Q (.bl k) H') : tOp (rCmp X.w X.K Z.al (Z.at (ca.pv ++ cb.pv)) (Ev.cmpop op)) (tEv X cf gl ca) (tEv X cf gl cb) σ H Q :=
  ⟨Z, env, S, x, S1, h1, st, eo, fun v H1 p1 => ⟨Z, env, S1, y, S', h2, p1.st, eo.xt p1.xt, fun u H2 p2 =>
    ⟨x, y, k, rt_sub (rt_xt p2.xt p1.rz p1.rt) fun i h => List.mem_append_left _ h, rt_sub p2.rt fun i h => List.mem_append_right _ h, h3, q H2 (p1.xt.trans p2.xt) p2.st⟩⟩⟩
def notSet : Expr → Bool
  | .Set _ _ _ => false
  | _ => true
theorem nomarks {op : CmpOp} {b : Expr} (h : notSet b = true) : behindInMarks op b = false := by
  cases b <;> first | rfl | cases h
theorem ce_cmp (hu : X.A.units + 64 < cLine) {op : Ev.Cop} (ha : PE X a (tEv X cf gl ca)) (hb : PE X b (tEv X cf gl cb)) (hm : notSet b = true) : PE X (.Compare a [pyC op] [b] pos) (tEv X cf gl (.cmp op ca cb)) := by
  refine ⟨fun pins s σ H Q I ⟨Z, env, S, r, S', e, st, eo, q⟩ => ?_⟩
  obtain ⟨x, S1, y, k, h1, h2, h3, rfl⟩ := cmp_inv e
  exact (pe_cmpR (op_cmpop hu op) ha hb (nomarks hm)).run pins s σ H Q I (cmp_to h1 h2 h3 st eo fun H' x1 s1 => q _ _ ⟨x1, s1, .bl _, .of (.bl _), fun z => by cases z⟩)
theorem ct_cmp (hu : X.A.units + 64 < cLine) {op : Ev.Cop} (ha : PE X a (tEv X cf gl ca)) (hb : PE X b (tEv X cf gl cb)) (hm : notSet b = true) : PT X (.Compare a [pyC op] [b] pos) (tEvT X cf gl (.cmp op ca cb)) := by
  refine ⟨fun pins s σ H Q I ⟨Z, env, S, r, S', t, e, et, st, eo, q⟩ => ?_⟩
  obtain ⟨x, S1, y, k, h1, h2, h3, rfl⟩ := cmp_inv e
  cases et
  exact (pt_cmpR (op_cmpop hu op) ha hb (nomarks hm)).run pins s σ H Q I (cmp_to h1 h2 h3 st eo fun H' x1 s1 => ⟨t, rfl, q H' x1 s1⟩)
theorem chain_inv {o1 o2 : Ev.Cop} {env : EnvV} {S S' : Store} {r : PV} (h : Ev.evE cf gl env (.chain o1 o2 ca cb cc) S = .ok (r, S')) :
    ∃ x S1 y S2 k, Ev.evE cf gl env ca S = .ok (x, S1) ∧ Ev.evE cf gl env cb S1 = .ok (y, S2) ∧ Ev.cmpop o1 x y = .ok k ∧ ((k = true ∧ ∃ z k2, Ev.evE cf gl env cc S2 = .ok (z, S') ∧ Ev.cmpop o2 y z = .ok k2 ∧ r = .bl k2) ∨ (k = false ∧ S2 = S' ∧ r = .bl false)) := by
  simp only [Ev.evE] at h
  obtain ⟨x, S1, h1, h⟩ := bindP h
  dsimp only at h
  obtain ⟨y, S2, h2, h⟩ := bindP h
  dsimp only at h
  obtain ⟨k, h3, h⟩ := Res.bind_eq_ok h
  refine ⟨x, S1, y, S2, k, h1, h2, h3, ?_⟩
  cases k with
  | true =>
    rw [if_pos rfl] at h
    obtain ⟨z, S3, h4, h⟩ := bindP h
    dsimp only at h
    obtain ⟨k2, h5, h⟩ := Res.bind_eq_ok h
    cases h
    exact .inl ⟨rfl, z, k2, h4, h5, rfl⟩
  | false =>
    rw [if_neg Bool.false_ne_true] at h
    cases h
    exact .inr ⟨rfl, rfl, rfl⟩
theorem chain_to {Z : Sit} {o1 o2 : Ev.Cop} {env : EnvV} {S S' : Store} {r : PV} {σ : L2.St} {H : Hp} {Q : VK} (e : Ev.evE cf gl env (.chain o1 o2 ca cb cc) S = .ok (r, S')) (st : StOk X.w X.K Z H S) (eo : EnvOk X Z σ H env)
    (q : ∀ k H', r = .bl k → XtA Z H H' → StOk X.w X.K Z H' S' → Q (.bl k) H') :
    tChain (rCmp X.w X.K Z.al (Z.at (ca.pv ++ cb.pv)) (Ev.cmpop o1)) (rCmp X.w X.K Z.al (Z.at (cb.pv ++ cc.pv)) (Ev.cmpop o2)) (tEv X cf gl ca) (tEv X cf gl cb) (tEv X cf gl cc) σ H Q := by
  obtain ⟨x, S1, y, S2, k, h1, h2, h3, h4⟩ := chain_inv e
  refine ⟨Z, env, S, x, S1, h1, st, eo, fun v H1 p1 => ⟨Z, env, S1, y, S2, h2, p1.st, eo.xt p1.xt, fun u H2 p2 => ?_⟩⟩
  refine ⟨x, y, k, rt_sub (rt_xt p2.xt p1.rz p1.rt) fun i h => List.mem_append_left _ h, rt_sub p2.rt fun i h => List.mem_append_right _ h, h3, k, rfl, ?_⟩
  have x12 := p1.xt.trans p2.xt
  rcases h4 with ⟨rfl, z, k2, h5, h6, rfl⟩ | ⟨rfl, rfl, rfl⟩
  · rw [if_pos rfl]
    exact ⟨Z, env, S2, z, S', h5, p2.st, eo.xt x12, fun w' H3 p3 => ⟨y, z, k2, rt_sub (rt_xt p3.xt p2.rz p2.rt) fun i h => List.mem_append_left _ h, rt_sub p3.rt fun i h => List.mem_append_right _ h, h6, q k2 H3 rfl (x12.trans p3.xt) p3.st⟩⟩
  · rw [if_neg Bool.false_ne_true]
    exact q false H2 rfl x12 p2.st
theorem lastm {op op' : CmpOp} {b c : Expr} (h : notSet c = true) : lastMarks [op, op'] [b, c] = false := nomarks h
theorem ce_chain (hu : X.A.units + 64 < cLine) {o1 o2 : Ev.Cop} (ha : PE X a (tEv X cf gl ca)) (hb : PE X b (tEv X cf gl cb)) (hc : PE X c (tEv X cf gl cc)) (hm : notSet c = true) : PE X (.Compare a [pyC o1, pyC o2] [b, c] pos) (tEv X cf gl (.chain o1 o2 ca cb cc)) := by
  refine ⟨fun pins s σ H Q I ⟨Z, env, S, r, S', e, st, eo, q⟩ => ?_⟩
  exact (pe_chain (op_cmpop hu o1) (op_cmpop hu o2) ha hb hc (lastm hm)).run pins s σ H Q I (chain_to e st eo fun k H' er x1 s1 => by subst er; exact q _ _ ⟨x1, s1, .bl _, .of (.bl _), fun z => by cases z⟩)
theorem ct_chain (hu : X.A.units + 64 < cLine) {o1 o2 : Ev.Cop} (ha : PE X a (tEv X cf gl ca)) (hb : PE X b (tEv X cf gl cb)) (hc : PE X c (tEv X cf gl cc)) (hm : notSet c = true) : PT X (.Compare a [pyC o1, pyC o2] [b, c] pos) (tEvT X cf gl (.chain o1 o2 ca cb cc)) := by
  refine ⟨fun pins s σ H Q I ⟨Z, env, S, r, S', t, e, et, st, eo, q⟩ => ?_⟩
  exact (pt_chain (op_cmpop hu o1) (op_cmpop hu o2) ha hb hc (lastm hm)).run pins s σ H Q I (chain_to e st eo fun k H' er x1 s1 => by subst er; cases et; exact ⟨_, rfl, q H' x1 s1⟩)
/-! ### subscripts -/
def notSlice : Expr → Bool
  | .Slice _ _ _ _ => false
  | _ => true
theorem plainIx {b : Expr} (h : notSlice b = true) : PlainIx b := fun o i => by
  cases b <;> first | rfl | cases h
theorem idx_inv {env : EnvV} {S S' : Store} {r : PV} (h : Ev.evE cf gl env (.idx ca cb) S = .ok (r, S')) : ∃ x S1 y, Ev.evE cf gl env ca S = .ok (x, S1) ∧ Ev.evE cf gl env cb S1 = .ok (y, S') ∧
    ((∃ n o, x = .cel n ∧ S'[n]? = some o ∧ Ev.subscr o y = .ok r) ∨ Ev.subscr x y = .ok r) := by
  simp only [Ev.evE] at h
  obtain ⟨x, S1, h1, h⟩ := bindP h
  dsimp only at h
  obtain ⟨y, S2, h2, h⟩ := bindP h
  dsimp only at h
  split at h
  · obtain ⟨o, h3, h⟩ := Res.bind_eq_ok h
    obtain ⟨k, h4, h⟩ := Res.bind_eq_ok h
    cases h
    exact ⟨_, S1, y, h1, h2, .inl ⟨_, o, rfl, ofOpt_ok h3, h4⟩⟩
  · obtain ⟨k, h4, h⟩ := Res.bind_eq_ok h
    cases h
    exact ⟨x, S1, y, h1, h2, .inr h4⟩
theorem subscr_imm {a b r : PV} (h : Ev.subscr a b = .ok r) : b.imm = true := by
  cases a with
  | dct l =>
    obtain ⟨f, _⟩ := need_bind h
    exact imm_of_key b (isKey_and f).1
  | lst l => cases b <;> first | rfl | cases h
  | tup l => cases b <;> first | rfl | cases h
  | str l => cases b <;> first | rfl | cases h
  | scr l => cases b <;> first | rfl | cases h
  | _ => cases b <;> cases h
theorem ce_idx (hu : X.A.units + 64 < cLine) (ha : PE X a (tEv X cf gl ca)) (hb : PE X b (tEv X cf gl cb)) (hm : notSlice b = true) : PE X (.Subscript a b pos) (tEv X cf gl (.idx ca cb)) := by
  refine ⟨fun pins s σ H Q I ⟨Z, env, S, r, S', e, st, eo, q⟩ => ?_⟩
  obtain ⟨x, S1, y, h1, h2, h3⟩ := idx_inv e
  refine (pe_ix (ix_any (al := Z.al) (P := Z.at ca.pv) hu) ha hb (plainIx hm)).run pins s σ H Q I ⟨Z, env, S, x, S1, h1, st, eo, fun v H1 p1 => ⟨Z, env, S1, y, S', h2, p1.st, eo.xt p1.xt, fun u H2 p2 => ?_⟩⟩
  have x12 := p1.xt.trans p2.xt
  rcases h3 with ⟨n, o, rfl, h4, h5⟩ | h4
  · have : ∃ aa, v = .ref aa ∧ Z.al[n]? = some aa := by
      cases p1.rz with
      | cel h => exact ⟨_, rfl, h⟩
    obtain ⟨aa, rfl, hn⟩ := this
    obtain ⟨d, k1, k2, k3⟩ := p2.st.cel n aa hn
    rw [h4] at k1
    cases k1
    exact ⟨o, y, r, k3.mono fun aa _ _ ca => Sit.sub (p2.st.csub aa ca).2 fun i h => (by cases h), .of (p2.rz.imm (Ext.refl (fun _ => False) H2) y (subscr_imm h5)), h5, Yes.post x12 p2.st id (fun i h => h) q⟩
  · exact ⟨x, y, r, rt_xt p2.xt p1.rz p1.rt, .of (p2.rz.imm (Ext.refl (fun _ => False) H2) y (subscr_imm h4)), h4, Yes.post x12 p2.st id (fun i h => h) q⟩
end
end EvB
end

section
set_option autoImplicit false
set_option Elab.async false
set_option linter.all false
set_option maxRecDepth 100000
set_option maxHeartbeats 1000000
namespace EvB
open PySem PySem.Spec PyProof.Rows L2
open Ev (PV Store Res EnvV CallF CE)
section
variable {X : Cx} {cf : CallF} {gl : Nat → Option PV} {a b c e : Expr} {ca cb cc : CE} {pos : Pos}
/-- a bound of a slice -/
def tEvO (X : Cx) (cf : CallF) (gl : Nat → Option PV) (ce : Option CE) : TO := fun σ H Q => ∃ (Z : Sit) (env : EnvV) (S : Store) (r : Option PV) (o : Option Int) (S' : Store), Ev.evO cf gl env ce S = .ok (r, S') ∧ Ev.asOpt r = .ok o ∧ StOk X.w X.K Z H S ∧ EnvOk X Z σ H env ∧
  ∀ H', XtA Z H H' → StOk X.w X.K Z H' S' → Q o H'
theorem co_none : PO X none (tEvO X cf gl none) := ⟨fun pins s σ H Q I ⟨Z, env, S, r, o, S', e, e2, st, eo, q⟩ => po_none.run pins s σ H Q I (by
  simp only [Ev.evO] at e
  cases e
  cases e2
  exact q H (Ext.refl _ _) st)⟩
theorem co_some (ha : PE X a (tEv X cf gl ca)) : PO X (some a) (tEvO X cf gl (some ca)) := ⟨fun pins s σ H Q I ⟨Z, env, S, r, o, S', e, e2, st, eo, q⟩ => (po_some ha).run pins s σ H Q I (by
  simp only [Ev.evO] at e
  obtain ⟨x, S1, h1, e⟩ := bindP e
  dsimp only at e
  cases e
  cases x <;> first | cases e2 | skip
  rename_i i
  obtain ⟨f, e2⟩ := need_bind e2
  cases e2
  exact ⟨Z, env, S, .int i, S', h1, st, eo, fun v H' p => ⟨i, p.rt.intE, q H' p.xt p.st⟩⟩)⟩
theorem slc_inv {lo hi : Option CE} {env : EnvV} {S S' : Store} {r : PV} (h : Ev.evE cf gl env (.slc ca lo hi) S = .ok (r, S')) : ∃ x S1 l S2 u l' u', Ev.evE cf gl env ca S = .ok (x, S1) ∧ Ev.evO cf gl env lo S1 = .ok (l, S2) ∧ Ev.evO cf gl env hi S2 = .ok (u, S') ∧
    Ev.asOpt l = .ok l' ∧ Ev.asOpt u = .ok u' ∧ sliceV x l' u' = .ok r := by
  simp only [Ev.evE] at h
  obtain ⟨x, S1, h1, h⟩ := bindP h
  dsimp only at h
  obtain ⟨l, S2, h2, h⟩ := bindP h
  dsimp only at h
  obtain ⟨u, S3, h3, h⟩ := bindP h
  dsimp only at h
  obtain ⟨k, h4, h⟩ := Res.bind_eq_ok h
  cases h
  unfold Ev.slice at h4
  obtain ⟨l', h5, h4⟩ := Res.bind_eq_ok h4
  obtain ⟨u', h6, h4⟩ := Res.bind_eq_ok h4
  exact ⟨x, S1, l, S2, u, l', u', h1, h2, h3, h5, h6, by cases x <;> exact h4⟩
theorem ce_slc {lo hi : Option Expr} {clo chi : Option CE} {p2 : Pos} (ha : PE X a (tEv X cf gl ca)) (hl : PO X lo (tEvO X cf gl clo)) (hh : PO X hi (tEvO X cf gl chi)) : PE X (.Subscript a (.Slice lo hi none p2) pos) (tEv X cf gl (.slc ca clo chi)) := by
  refine ⟨fun pins s σ H Q I ⟨Z, env, S, r, S', e, st, eo, q⟩ => ?_⟩
  obtain ⟨x, S1, l, S2, u, l', u', h1, h2, h3, h5, h6, h7⟩ := slc_inv e
  refine (pe_slice (sl_all (al := Z.al) (P := Z.at ca.pv)) ha hl hh).run pins s σ H Q I ⟨Z, env, S, x, S1, h1, st, eo, fun v H1 p1 => ⟨Z, env, S1, l, l', S2, h2, h5, p1.st, eo.xt p1.xt, fun H2 x2 s2 => ⟨Z, env, S2, u, u', S', h3, h6, s2, (eo.xt p1.xt).xt x2, fun H3 x3 s3 => ?_⟩⟩⟩
  have x23 := x2.trans x3
  exact ⟨x, r, rt_xt x23 p1.rz p1.rt, h7, s3.new _, Yes.post (p1.xt.trans x23) s3 (fun _ => rfl) (fun i h => h) q⟩
theorem ce_rev {k : Nat} {p1 p2 p3 : Pos} (ha : PE X a (tEv X cf gl ca)) : PE X (.Subscript a (.Slice none none (some (.UnaryOp .USub (.Constant (.int 1) k p1) p2)) p3) pos) (tEv X cf gl (.rev ca)) := by
  refine ⟨fun pins s σ H Q I ⟨Z, env, S, r, S', e, st, eo, q⟩ => ?_⟩
  simp only [Ev.evE] at e
  obtain ⟨x, S1, h1, e⟩ := bindP e
  dsimp only at e
  obtain ⟨k2, h2, e⟩ := Res.bind_eq_ok e
  cases e
  exact (pe_rev (al := Z.al) (P := Z.at ca.pv) ha).run pins s σ H Q I ⟨Z, env, S, x, S', h1, st, eo, fun v H1 p1 => ⟨x, r, p1.rt, h2, p1.st.new _, Yes.post p1.xt p1.st (fun _ => rfl) (fun i h => h) q⟩⟩
end
end EvB
end

section
set_option autoImplicit false
set_option Elab.async false
set_option linter.all false
set_option maxRecDepth 100000
set_option maxHeartbeats 1000000
/-! calls of defs -/
namespace EvB
open PySem PySem.Spec PyProof.Rows L2
open Ev (PV Store Res EnvV CallF CE)
/-- no exception leaves -/
def noX : CXT := fun _ _ _ _ _ _ => False
theorem noX_passes {X : Cx} {E : XK} : Passes noX X E := fun _ _ _ _ _ _ _ h => h.elim
/-- what a def promises: what the evaluator's call gives -/
def spEv (w : World) (K : PySem.W.Frag) (cf : CallF) (f np : Nat) : Sp := fun vs H Q _ => ∃ (Z : Sit) (args : List PV) (S : Store) (r : PV) (S' : Store), cf f args S = .ok (r, S') ∧ args.length = np ∧ (∀ i, Z.O i = none) ∧ StOk w K Z H S ∧ RzL w K Z.al H (Z.at []) vs args ∧
  ∀ v H', XtA Z H H' → StOk w K Z H' S' → Rz w K Z.al H' (Z.at []) v r → Q v H'
/-- as a callee sees it -/
def Sit.call (Z : Sit) (is : List Nat) : Sit := ⟨Z.al, Z.at is, Z.C, fun _ => none⟩
theorem call_at {Z : Sit} {is js : List Nat} {a : Addr} : (Z.call is).at js a ↔ Z.at is a := ⟨fun h => h.1, fun h => ⟨h, h.2.1, fun i e => (by cases e)⟩⟩
section
variable {w : World} {K : PySem.W.Frag} {Z : Sit} {H H' : Hp} {S S' : Store}
theorem StOk.call (s : StOk w K Z H S) (is : List Nat) (n : ∀ a, H a = none → Z.at is a) : StOk w K (Z.call is) H S :=
  ⟨s.len, s.nod, n, s.cel, fun a c => ⟨(s.csub a c).1, call_at.mpr (Sit.sub (s.csub a c).2 fun i h => (by cases h))⟩, fun i a e => by cases e⟩
theorem StOk.back {is : List Nat} (s : StOk w K Z H S) (x : XtA Z H H') (s' : StOk w K (Z.call is) H' S') : StOk w K Z H' S' := by
  have st : ∀ a, H a ≠ none → a ∉ Z.al → H' a ≠ none := fun a h n q => by
    cases k : H a with
    | none => exact h k
    | some ob =>
      rcases x a ob k with z | z
      · rw [z] at q
        cases q
      · exact n z.1
  exact ⟨s'.len, s'.nod, fun a e => (s'.fr a e).1, s'.cel, fun a c => ⟨st a (s.csub a c).1 (s.csub a c).2.2.1, (s.csub a c).2⟩, fun i a e => ⟨st a (s.own i a e).1 (s.own i a e).2, (s.own i a e).2⟩⟩
end
section
variable {X : Cx} {cf : CallF} {gl : Nat → Option PV} {x : Str} {p pos : Pos} {e : Expr} {es : List Expr} {c : CE} {cs : List CE} {k f np : Nat} {fa : Addr} {fd : FuncData} {ps : List Str}
theorem splain : ∀ {es : List Expr} (env : Env), es.all notStar = true → (starEach es env).any (·.1) = false
  | [], _, _ => rfl
  | e :: es, env, h => by
    obtain ⟨h1, h2⟩ := Bool.and_eq_true_iff.mp (show (notStar e && es.all notStar) = true from h)
    rw [starEach_cons h1, List.any_cons, splain env h2]
    rfl
theorem bplain {es : List Expr} {env : Env} (h : es.all notStar = true) : (backTo pos (starEach es env)).any (·.1) = false := by
  have := splain env h
  unfold backTo
  rw [List.any_map]
  first | exact this | (rw [← this]; rfl) | (simpa using this)
theorem ce_call (F : FnOk X.prog X.w X.K X.mg X.base noX k fa fd ps (spEv X.w X.K cf f np)) (hr : Room k X.A) (hg : Gl X x) (hm : X.mg x = some (.ref fa)) (hk : PySem.W.keepIn X.K (.ref fa) = true) (hb : Binds X.K fd ps [])
    (ha : PA X (e :: es) (tEvL X cf gl (c :: cs))) (hlen : ∀ args S r, cf f args S = .ok r → args.length = np) (hdb : (x == ("__debug__" : Str)) = false) (hs : (e :: es).all notStar = true) :
    PE X (.Call (.Name x p) (e :: es) [] pos) (tEv X cf gl (.call f (c :: cs))) := by
  obtain ⟨hs1, hs2⟩ := Bool.and_eq_true_iff.mp (show (notStar e && es.all notStar) = true from hs)
  refine (pe_call (E := fun _ _ _ => False) F hr hg hm hk hb .nil noX_passes ha hdb (starEach_cons hs1) (bplain hs2)).to fun σ H Q ⟨Z, env, S, r, S', ee, st, eo, q⟩ => ?_
  simp only [Ev.evE] at ee
  obtain ⟨xs, S1, h1, ee⟩ := bindP ee
  dsimp only at ee
  refine ⟨Z, env, S, xs, S1, h1, st, eo, fun vs H1 p1 => ?_⟩
  show spEv X.w X.K cf f np (vs ++ []) H1 Q _
  rw [List.append_nil]
  have nw := p1.st.new (Ev.tvL (c :: cs))
  refine ⟨Z.call (Ev.tvL (c :: cs)), xs, S1, r, S', ee, hlen _ _ _ ee, fun i => rfl, p1.st.call _ nw, p1.rz.mono fun a o _ h => call_at.mpr h, fun v H' x2 s2 rz => q v H' ?_⟩
  have rz' : Rz X.w X.K Z.al H' (Z.at (Ev.tvL (c :: cs))) v r := rz.mono fun a o _ h => call_at.mp h
  exact ⟨p1.xt.trans x2, p1.st.back x2 s2, rz', .of rz', fun z => by cases z⟩
end
end EvB
end

section
set_option autoImplicit false
set_option Elab.async false
set_option linter.all false
set_option maxRecDepth 100000
set_option maxHeartbeats 1000000
/-! sorted -/
namespace EvB
open PySem PySem.Spec PyProof.Rows L2
open Ev (PV Store Res EnvV CallF CE)
section
variable {prog : Program} {w : World} {A : Around} {E : Value → Shared → Prop} {s : Shared} {β : Type} {R : Value → β → Prop} {enc : β → PyData}
/-- what is collected, to be sorted -/
structure Col (A : Around) (R : Value → β → Prop) (enc : β → PyData) (s : Shared) (vs : List Value) (bs : List β) (s1 : Shared) : Prop where
  kept : ∀ b o, s.heap.get? b = some o → s1.heap.get? b = some o
  each : PySem.W.EachIs R vs bs
  reads : PySem.W.EachIs (fun v b => ∃ as, Reads s1.heap v (enc b) as) vs bs
  alike : PySem.W.AllAlike (bs.map enc)
  sort : PySem.W.Sortable (bs.map enc)
  len : bs.length ≤ sizeLine
  units : ∀ b ∈ bs, A.units + 2 + (enc b).depth < cLine
theorem sorted_col {l : Value} {Q : Value → Shared → Prop}
    (h : wpAny (model prog w) A.in1 (collect l) (fun vs s1 => ∃ bs, Col A R enc s vs bs s1 ∧ ∀ (out : List Value) (d : Addr) (h' : Heap) (n : Nat), PySem.W.EachIs R out (bs.mergeSort (PySem.W.dataLe false enc)) → (∀ b o, s1.heap.get? b = some o → h'.get? b = some o) → s1.heap.objs.size ≤ d →
      h'.get? d = some (seqObj "list" out.toArray n) → Q (.ref d) { s1 with heap := h' }) (fun _ _ => False) s) :
    wpAny (model prog w) A (call (.builtin "sorted") [l]) Q E s := by
  refine Calls.call_function_entry kind_sorted plain_sorted entry_sorted (args_sorted1 _) ?_
  unfold Builtin.«sorted»
  refine wpAny_bind (m := checkCount "sorted" 1 1 _) (wpAny_pure ?_)
  refine wpAny_bind (wpAny_mono h (fun vs s1 ⟨bs, c, q⟩ => ?_) fun _ _ z => z.elim)
  have lenv : vs.length = bs.length := c.each.length
  have hL : vs.length ≤ sizeLine := by rw [lenv]; exact c.len
  refine wpAny_bind (wpAny_newList ?_ hL)
  have hat : (s1.heap.push (seqObj "list" vs.toArray 0)).get? s1.heap.objs.size = some (seqObj "list" vs.toArray 0) := Heap.get?_push_size _ rfl
  have kp : ∀ b o, s1.heap.get? b = some o → (s1.heap.push (seqObj "list" vs.toArray 0)).get? b = some o := fun b o e => Heap.get?_push_of_some _ e
  have er' : PySem.W.EachIs (fun v b => ∃ as, Reads (PySem.W.sortingHeap (s1.heap.push (seqObj "list" vs.toArray 0)) s1.heap.objs.size vs) v (enc b) as) vs bs :=
    c.reads.mono fun _ _ ⟨as, r⟩ => ⟨as, Reads.keeps (fun b o e => PySem.W.sortingHeap_old (Nat.ne_of_lt (Heap.lt_size e)) (kp b o e)) r⟩
  have S := PySem.W.SortsAt.data (prog := prog) (w := w) (A := A.in1.in1) (s := { s1 with heap := PySem.W.sortingHeap (s1.heap.push (seqObj "list" vs.toArray 0)) s1.heap.objs.size vs })
    (PySem.W.each_map (R := fun v d => ∃ as, Reads (PySem.W.sortingHeap (s1.heap.push (seqObj "list" vs.toArray 0)) s1.heap.objs.size vs) v d as) enc er') c.alike c.sort (PySem.W.bound_map (A := A.in1.in1) c.units)
  refine wpAny_bind (wpAny_holding (wpAny_call_entry slot_list_sort ⟨_, hat, rfl⟩ entry_list_sort (PySem.W.list_sort_vals (s := { s1 with heap := s1.heap.push (seqObj "list" vs.toArray 0) }) hat S hL ⟨_, rfl, ?_⟩) (args_list_sort _)))
  obtain ⟨n, hn⟩ := sortedHeap_at (vs := vs) (out := (PySem.W.sortVals (PySem.W.dataKind (PySem.W.sortingHeap (s1.heap.push (seqObj "list" vs.toArray 0)) s1.heap.objs.size vs) (bs.map enc)) false vs vs).toArray) hat
  refine wpAny_pure ⟨_, rfl, q _ _ _ n (PySem.W.sortVals_data false c.each er' c.alike) (fun b o e => ?_) (Nat.le_refl _) hn⟩
  exact (sortedHeap_old (Nat.ne_of_lt (Heap.lt_size e)) (Heap.lt_size (kp b o e))).trans (kp b o e)
end
end EvB
end

section
set_option autoImplicit false
set_option Elab.async false
set_option linter.all false
set_option maxRecDepth 100000
set_option maxHeartbeats 1000000
namespace EvB
open PySem PySem.Spec PyProof.Rows L2
open Ev (PV Store Res EnvV CallF CE)
abbrev leD : PV → PV → Bool := PySem.W.dataLe false toD
theorem leD_total : PySem.W.TotalLe leD := PySem.W.sortLe_total _ _ _
theorem leD_eq {a b : PV} (h : b.alike a = true) (pa : a.plain = true) (pb : b.plain = true) : leD a b = !(b.ltb a) := by
  show PySem.W.dataLe false toD a b = _
  rw [PySem.W.dataLe_eq]
  show (!PySem.W.dataLt (toD b) (toD a)) = _
  rw [dataLt_toD b a h pb pa]
theorem insB_perm (lt : PV → PV → Bool) (x : PV) : ∀ l : List PV, (Ev.insB lt x l).Perm (x :: l)
  | [] => List.Perm.refl _
  | y :: ys => by
    unfold Ev.insB
    split
    · exact List.Perm.refl _
    · exact ((insB_perm lt x ys).cons y).trans (List.Perm.swap x y ys)
theorem isort_perm_aux (lt : PV → PV → Bool) : ∀ (l acc : List PV), (l.foldl (fun acc x => Ev.insB lt x acc) acc).Perm (l ++ acc)
  | [], acc => List.Perm.refl _
  | x :: l, acc => by
    rw [List.foldl_cons]
    exact (isort_perm_aux lt l (Ev.insB lt x acc)).trans (((insB_perm lt x acc).append_left l).trans List.perm_middle)
theorem isort_perm (lt : PV → PV → Bool) (l : List PV) : (Ev.isort lt l).Perm l := by
  have := isort_perm_aux lt l []
  rwa [List.append_nil] at this
theorem insB_sorted {le : PV → PV → Bool} (T : PySem.W.TotalLe le) {lt : PV → PV → Bool} {x : PV} : ∀ {l : List PV}, (∀ y ∈ l, lt x y = !le y x) → l.Pairwise (fun a b => le a b = true) → (Ev.insB lt x l).Pairwise (fun a b => le a b = true)
  | [], _, _ => List.pairwise_singleton _ _
  | y :: ys, h, p => by
    obtain ⟨p1, p2⟩ := List.pairwise_cons.mp p
    unfold Ev.insB
    have hy := h y List.mem_cons_self
    split
    · rename_i c
      rw [c] at hy
      have n : le y x = false := by cases k : le y x <;> simp [k] at hy ⊢
      have xy : le x y = true := (T.total x y).resolve_right (by rw [n]; exact Bool.false_ne_true)
      refine List.pairwise_cons.mpr ⟨fun z hz => ?_, p⟩
      rcases List.mem_cons.mp hz with rfl | hz
      · exact xy
      · exact T.trans x y z xy (p1 z hz)
    · rename_i c
      have n : le y x = true := by
        cases k : le y x with
        | true => rfl
        | false => rw [k] at hy; exact absurd hy c
      refine List.pairwise_cons.mpr ⟨fun z hz => ?_, insB_sorted T (fun w hw => h w (List.mem_cons_of_mem _ hw)) p2⟩
      rcases List.mem_cons.mp ((insB_perm lt x ys).mem_iff.mp hz) with rfl | hz
      · exact n
      · exact p1 z hz
theorem isort_sorted_aux {le : PV → PV → Bool} (T : PySem.W.TotalLe le) {lt : PV → PV → Bool} : ∀ (l acc : List PV), (∀ x ∈ l ++ acc, ∀ y ∈ l ++ acc, lt x y = !le y x) → acc.Pairwise (fun a b => le a b = true) → (l.foldl (fun acc x => Ev.insB lt x acc) acc).Pairwise (fun a b => le a b = true)
  | [], _, _, p => p
  | x :: l, acc, h, p => by
    rw [List.foldl_cons]
    refine isort_sorted_aux T l _ (fun a ha b hb => h a ?_ b ?_) (insB_sorted T (fun y hy => h x (by simp) y (by simp [hy])) p)
    · rcases List.mem_append.mp ha with ha | ha
      · simp [ha]
      · rcases List.mem_cons.mp ((insB_perm lt x acc).mem_iff.mp ha) with rfl | ha <;> simp [*]
    · rcases List.mem_append.mp hb with hb | hb
      · simp [hb]
      · rcases List.mem_cons.mp ((insB_perm lt x acc).mem_iff.mp hb) with rfl | hb <;> simp [*]
theorem minable_and {l : List PV} (h : Ev.minable l = true) : (∀ x ∈ l, ∀ y ∈ l, x.alike y = true) ∧ (∀ x ∈ l, x.isNon = false) ∧ ∀ x ∈ l, x.plain = true ∧ x.depth ≤ 60 := by
  obtain ⟨h1, h2⟩ := Bool.and_eq_true_iff.mp h
  have h1 := List.all_eq_true.mp h1
  have h2 := List.all_eq_true.mp h2
  refine ⟨fun x hx y hy => ?_, fun x hx => ?_, fun x hx => okD_and (h2 x hx)⟩
  · exact List.all_eq_true.mp (Bool.and_eq_true_iff.mp (h1 x hx)).2 y hy
  · simpa using (Bool.and_eq_true_iff.mp (h1 x hx)).1
theorem sortable_and {l : List PV} (h : Ev.sortable l = true) : Ev.minable l = true ∧ ∀ x ∈ l, x ≠ .tup [] := by
  obtain ⟨h1, h2⟩ := Bool.and_eq_true_iff.mp h
  refine ⟨h1, fun x hx e => ?_⟩
  have := List.all_eq_true.mp h2 x hx
  rw [e] at this
  cases this
/-- the library's sorted list is ours -/
theorem sorted_isort {l : List PV} (h : Ev.minable l = true) {m : List PV} (pm : m.Perm l) (sm : m.Pairwise (fun a b => leD a b = true)) : m = Ev.isort Ev.PV.ltb l := by
  obtain ⟨h1, h2, h3⟩ := minable_and h
  have s2 := isort_sorted_aux leD_total (lt := Ev.PV.ltb) l [] (fun x hx y hy => by
    rw [List.append_nil] at hx hy
    rw [leD_eq (h1 x hx y hy) (h3 y hy).1 (h3 x hx).1, Bool.not_not]) List.Pairwise.nil
  refine List.Perm.eq_of_pairwise (le := fun a b => leD a b = true) (fun a b ha hb e1 e2 => ?_) sm s2 (pm.trans (isort_perm _ l).symm)
  have ha := pm.mem_iff.mp ha
  have hb := (isort_perm _ l).mem_iff.mp hb
  rw [leD_eq (h1 b hb a ha) (h3 a ha).1 (h3 b hb).1] at e1
  rw [leD_eq (h1 a ha b hb) (h3 b hb).1 (h3 a ha).1] at e2
  exact Ev.PV.ltb_anti a b (h1 a ha b hb) (by simpa using e2) (by simpa using e1)
section
variable {X : Cx} {al : List Addr} {P : Addr → Prop} {H : Hp}
theorem rzl_mem {bs : List (V × PV)} : ∀ {ms : List (V × PV)}, (∀ p ∈ ms, Rz X.w X.K al H P p.1 p.2) → RzL X.w X.K al H P (ms.map (·.1)) (ms.map (·.2))
  | [], _ => .nil
  | p :: ms, h => .cons (h p List.mem_cons_self) (rzl_mem (bs := bs) fun q hq => h q (List.mem_cons_of_mem _ hq))
theorem rzl_zip : ∀ {vs : List V} {ds : List PV}, RzL X.w X.K al H P vs ds → ∀ p ∈ vs.zip ds, Rz X.w X.K al H P p.1 p.2
  | _, _, .nil, p, h => by cases h
  | _, _, .cons h1 t, p, h => by
    rw [List.zip_cons_cons] at h
    rcases List.mem_cons.mp h with rfl | h
    · exact h1
    · exact rzl_zip t p h
theorem each_zip : ∀ {vs : List V} {us : List Value} {ds : List PV}, Vals vs us → vs.length = ds.length → PySem.W.EachIs (fun u (b : V × PV) => RelV b.1 u) us (vs.zip ds)
  | _, _, [], .nil, _ => .nil
  | _, _, _ :: _, .nil, h => by cases h
  | _, _, [], .cons _ _, h => by cases h
  | _, _, d :: ds, .cons r t, h => by
    rw [List.zip_cons_cons]
    exact .cons r (each_zip t (by simpa using h))
theorem vals_each : ∀ {us : List Value} {ms : List (V × PV)}, PySem.W.EachIs (fun u (b : V × PV) => RelV b.1 u) us ms → Vals (ms.map (·.1)) us
  | _, _, .nil => .nil
  | _, _, .cons h t => by
    rw [List.map_cons]
    exact .cons h (vals_each t)
theorem each_reads {pins : List (Addr × Obj)} {σ : L2.St} {s : Shared} (I : Inv X pins σ H s) : ∀ {vs : List V} {us : List Value} {ds : List PV}, Vals vs us → RzL X.w X.K al H P vs ds → (∀ d ∈ ds, d.plain = true) → PySem.W.EachIs (fun u (b : V × PV) => ∃ as, Reads s.heap u (toD b.2) as) us (vs.zip ds)
  | _, _, _, .nil, .nil, _ => .nil
  | _, _, _, .cons r t, .cons (d := d) h1 h2, p => by
    rw [List.zip_cons_cons]
    exact .cons (Dp.reads I _ _ _ (rz_dp d (p d List.mem_cons_self) h1) r) (each_reads I t h2 fun x hx => p x (List.mem_cons_of_mem _ hx))
theorem sortable_D {l : List PV} (h : Ev.sortable l = true) (vs : List V) (hl : vs.length = l.length) : PySem.W.AllAlike ((vs.zip l).map fun b => toD b.2) ∧ PySem.W.Sortable ((vs.zip l).map fun b => toD b.2) := by
  obtain ⟨hm, hn⟩ := sortable_and h
  obtain ⟨h1, h2, h3⟩ := minable_and hm
  have e : (vs.zip l).map (fun b => toD b.2) = l.map toD := by
    rw [show (fun b : V × PV => toD b.2) = toD ∘ Prod.snd from rfl, ← List.map_map, List.map_snd_zip (by omega)]
  rw [e]
  refine ⟨fun d hd d' hd' => ?_, ?_⟩
  · obtain ⟨x, hx, rfl⟩ := List.mem_map.mp hd
    obtain ⟨y, hy, rfl⟩ := List.mem_map.mp hd'
    exact alike_toD x y (h1 x hx y hy)
  · by_cases t : ∃ x ∈ l, ∃ m, x = .tup m
    · obtain ⟨x, hx, m, rfl⟩ := t
      refine .inl fun d hd => ?_
      obtain ⟨y, hy, rfl⟩ := List.mem_map.mp hd
      have a := h1 _ hx y hy
      cases y with
      | tup n =>
        cases n with
        | nil => exact absurd rfl (hn _ hy)
        | cons z zs => exact ⟨toD z, toDs zs, rfl⟩
      | _ => simp [Ev.PV.alike] at a
    · refine .inr fun d hd => ?_
      obtain ⟨y, hy, rfl⟩ := List.mem_map.mp hd
      refine ⟨ne_none_of_isNon (h2 y hy) (h3 y hy).1, fun xs e => ?_⟩
      cases y with
      | tup n => exact t ⟨_, hy, n, rfl⟩
      | _ => simp [toD] at e
end
end EvB
end

section
set_option autoImplicit false
set_option Elab.async false
set_option linter.all false
set_option maxRecDepth 100000
set_option maxHeartbeats 1000000
namespace EvB
open PySem PySem.Spec PyProof.Rows L2
open Ev (PV Store Res EnvV CallF CE)
theorem sortable_perm {l m : List PV} (h : Ev.sortable l = true) (p : m.Perm l) : Ev.sortable m = true := by
  obtain ⟨h0, h4⟩ := Bool.and_eq_true_iff.mp h
  obtain ⟨h1, h2⟩ := Bool.and_eq_true_iff.mp h0
  have h1 := List.all_eq_true.mp h1
  have h2 := List.all_eq_true.mp h2
  have h4 := List.all_eq_true.mp h4
  refine Bool.and_eq_true_iff.mpr ⟨Bool.and_eq_true_iff.mpr ⟨List.all_eq_true.mpr fun x hx => ?_, List.all_eq_true.mpr fun x hx => h2 x (p.mem_iff.mp hx)⟩, List.all_eq_true.mpr fun x hx => h4 x (p.mem_iff.mp hx)⟩
  obtain ⟨a, b⟩ := Bool.and_eq_true_iff.mp (h1 x (p.mem_iff.mp hx))
  exact Bool.and_eq_true_iff.mpr ⟨a, List.all_eq_true.mpr fun y hy => List.all_eq_true.mp b y (p.mem_iff.mp hy)⟩
section
variable {X : Cx} {al : List Addr} {P : Addr → Prop} {pins : List (Addr × Obj)} {σ : L2.St} {H : Hp} {s : Shared}
/-- sorted(u): what is collected is l', in some order l -/
theorem sorted_rule {u : Value} {l : List PV} {r : PV} {Q : VK} (I : Inv X pins σ H s) (hu : X.A.units + 128 < cLine) (e : Ev.sortedE l = .ok r) (fr : ∀ p, H p = none → P p) (q : Yes X.w X.K al H P true r Q)
    (hcol : wpAny (model X.prog X.w) X.A.in1 (collect u) (fun us s1 => ∃ H1 vs l', Inv X pins σ H1 s1 ∧ Vals vs us ∧ RzL X.w X.K al H1 P vs l' ∧ l'.Perm l ∧ Same H H1 ∧ (∀ b o, s.heap.get? b = some o → s1.heap.get? b = some o)) (fun _ _ => False) s) :
    wpAny (model X.prog X.w) X.A (call (.builtin "sorted") [u]) (EP X pins σ Q) X.xe s := by
  obtain ⟨f, e⟩ := need_bind e
  cases e
  obtain ⟨f1, f2⟩ := Bool.and_eq_true_iff.mp f
  refine sorted_col (β := V × PV) (R := fun u b => RelV b.1 u) (enc := fun b => toD b.2) (wpAny_mono hcol (fun us s1 ⟨H1, vs, l', I1, rv, rz, pm, sm, kp⟩ => ?_) fun _ _ z => z)
  have f3 := sortable_perm f2 pm
  obtain ⟨hm, _⟩ := sortable_and f3
  obtain ⟨_, _, h3⟩ := minable_and hm
  have hl := rz.length
  have hL : (vs.zip l').length ≤ sizeLine := by
    rw [List.length_zip, hl, Nat.min_self, pm.length_eq]
    exact fits_le f1
  refine ⟨vs.zip l', ⟨kp, each_zip rv hl, each_reads I1 rv rz fun d hd => (h3 d hd).1, (sortable_D f3 vs hl).1, (sortable_D f3 vs hl).2, hL, fun b hb => ?_⟩, fun out d h' n eo k hd hg => ?_⟩
  · have := (List.of_mem_zip hb).2
    obtain ⟨p1, p2⟩ := h3 _ this
    show X.A.units + 2 + (toD b.2).depth < cLine
    rw [depth_toD b.2 p1]
    omega
  · have hp : ((vs.zip l').mergeSort (PySem.W.dataLe false fun b => toD b.2)).Perm (vs.zip l') := List.mergeSort_perm _ _
    have e2 : ((vs.zip l').mergeSort (PySem.W.dataLe false fun b => toD b.2)).map (·.2) = Ev.isort Ev.PV.ltb l := by
      have pm2 := hp.map (·.2)
      rw [show (vs.zip l').map (fun x => x.2) = l' from List.map_snd_zip (by omega)] at pm2
      refine sorted_isort (sortable_and f2).1 (pm2.trans pm) ?_
      have := PySem.W.sort_pairwise (PySem.W.sortLe_total _ _ _ : PySem.W.TotalLe (PySem.W.dataLe false fun b : V × PV => toD b.2)) (vs.zip l')
      rw [List.pairwise_map]
      exact this
    have hn : H1 d = none := I1.hok.fresh hd
    have rz2 : RzL X.w X.K al H1 P (((vs.zip l').mergeSort (PySem.W.dataLe false fun b => toD b.2)).map (·.1)) (Ev.isort Ev.PV.ltb l) := by
      rw [← e2]
      exact rzl_mem (bs := []) fun p hp2 => rzl_zip rz p (hp.mem_iff.mp hp2)
    have new : ObjOk X.prog X.w (upd H1 d (.lst (((vs.zip l').mergeSort (PySem.W.dataLe false fun b => toD b.2)).map (·.1)))) h' d (.lst (((vs.zip l').mergeSort (PySem.W.dataLe false fun b => toD b.2)).map (·.1))) := by
      refine ⟨by rw [List.length_map, hp.length_eq]; exact hL, out, n, vals_each eo, hg⟩
    refine ⟨.ref d, _, I1.laid (t' := s1.toks) k hd new, rfl, ?_⟩
    have hn0 : H d = none := by
      cases kk : H d with
      | none => rfl
      | some o =>
        rw [sm d o kk] at hn
        cases hn
    refine q _ _ ?_ (.lst upd_same (fr d hn0) (rz2.same (same_new hn))) fun _ a ea => by cases ea; exact .inl hn0
    intro b o hb
    rw [upd_ne (ne_of_none (sm b o hb) hn)]
    exact sm b o hb
/-- sorted(x) of a list, a tuple -/
theorem call_sortedL (hu : X.A.units + 128 < cLine) : CallR X (.builtin "sorted") (fun xs H Q => ∃ x a l r, xs = [x] ∧ Rt X.w X.K al H P x a ∧ (a = .lst l ∨ a = .tup l) ∧ Ev.sortedE l = .ok r ∧ (∀ p, H p = none → P p) ∧ Yes X.w X.K al H P true r Q) := by
  intro pins s σ H xs us Q I rr h
  obtain ⟨x, a, l, r, rfl, ha, hk, e, fr, q⟩ := h
  obtain ⟨u, rfl, rx⟩ := vals1 rr
  refine sorted_rule I hu e fr q ?_
  rcases hk with rfl | rfl
  · obtain ⟨p, vs, rfl, h1, h2⟩ := ha.list
    cases rx
    obtain ⟨its, rv, pl, hz⟩ := I.list (.inl (.inl h1))
    obtain ⟨o, n, ho, hc, hd, hdat⟩ := pl
    refine wpAny_collect_seq p (.inl rfl) ho hc hdat (fun h' k => ?_) (by simpa [← rv.length] using hz)
    exact ⟨H, vs, l, I.kept (t' := s.toks) k, by simpa using rv, h2, List.Perm.refl _, Same.refl H, k⟩
  · obtain ⟨p, vs, rfl, h1, h2⟩ := ha.tupE
    cases rx
    obtain ⟨its, rv, ⟨o, ho, hc, n, hdat⟩, hz⟩ := I.tuple h1
    refine wpAny_collect_seq p (.inr rfl) ho hc hdat (fun h' k => ?_) (by simpa [← rv.length] using hz)
    exact ⟨H, vs, l, I.kept (t' := s.toks) k, by simpa using rv, h2, List.Perm.refl _, Same.refl H, k⟩
end
end EvB
end

section
set_option autoImplicit false
set_option Elab.async false
set_option linter.all false
set_option maxRecDepth 100000
set_option maxHeartbeats 1000000
namespace EvB
open PySem PySem.Spec PyProof.Rows L2
open Ev (PV Store Res EnvV CallF CE)
section
variable {X : Cx} {al : List Addr} {P : Addr → Prop}
theorem len_raw_body {prog : Program} {w : World} {A : Around} {E : Value → Shared → Prop} {s : Shared} {d : Addr} {es : Array DictEntry} {ep : Nat} {Q : Value → Shared → Prop} (hd : (d == sysModules) = false) (hm : s.heap.DictRaw d es ep) (hfit : (es.size : Int) < 2 ^ 63)
    (h : Q (.int es.size (s.toks + 1)) { s with toks := s.toks + 1 + 1 }) :
    wpAny (model prog w) A.in1 (Builtin.«len» ⟨[.ref d], []⟩) (fun fin s' => ∃ r, fin = .done (.ret r) ∧ Q r s') E s := by
  obtain ⟨o, ho, hc, hdat⟩ := id hm
  have hT : s.TypeIs (.ref d) "dict" := ⟨o, ho, hc.1⟩
  unfold Builtin.«len»
  refine wpAny_bind (m := oneArg "len" _) (wpAny_pure ?_)
  refine wpAny_bind (m := callSpecial? (.ref d) (Str.ofString "__len__")) (wpAny_callSpecial?_slot (name := Str.ofString "__len__") hT F.slot_dict_len (call_len_raw hd hm ?_))
  show wpAny _ _ _ _ _ { s with toks := s.toks + 1 }
  refine wpAny_bind (wpAny_holding (wpAny_pure ?_))
  refine wpAny_bind (wpAny_letGo ?_)
  show wpAny _ _ (if ((es.size : Nat) : Int) < 0 then _ else _) _ _ _
  rw [if_neg (by omega)]
  show wpAny _ _ (if ((es.size : Nat) : Int) ≥ 2 ^ 63 then _ else _) _ _ _
  rw [if_neg (by omega)]
  exact wpAny_bind (wpAny_mkInt (wpAny_pure ⟨_, rfl, h⟩))
/-- a built-in of one argument, by values -/
def rB1 (X : Cx) (al : List Addr) (P : Addr → Prop) (b : Ev.Bi) (fr : Bool) : List V → Hp → VK → Prop := fun xs H Q => ∃ x a r, xs = [x] ∧ Rt X.w X.K al H P x a ∧ Ev.builtin b [a] = .ok r ∧ (∀ p, H p = none → P p) ∧ Yes X.w X.K al H P fr r Q
theorem b_len : CallR X (.builtin "len") (rB1 X al P .len false) := by
  intro pins s σ H xs us Q I rr h
  obtain ⟨x, a, r, rfl, ha, e, fr, q⟩ := h
  cases a with
  | lst l =>
    cases e
    obtain ⟨p, vs, rfl, h1, h2⟩ := ha.list
    exact call_len_seq pins s σ H _ us Q I rr ⟨p, vs, rfl, .inl (.inl (.inl h1)), by rw [h2.length]; exact q.int⟩
  | tup l =>
    cases e
    obtain ⟨p, vs, rfl, h1, h2⟩ := ha.tupE
    exact call_len_seq pins s σ H _ us Q I rr ⟨p, vs, rfl, .inr h1, by rw [h2.length]; exact q.int⟩
  | str l =>
    cases e
    have hl := ha.strL
    rw [ha.strE] at rr
    exact call_len_str pins s σ H _ us Q I rr ⟨toS l, rfl, by rw [toS_length]; exact hl, by rw [toS_length]; exact q.int⟩
  | scr l =>
    cases e
    cases ha.rz rfl with
    | scr h1 => exact call_len_seq pins s σ H _ us Q I rr ⟨_, _, rfl, .inl h1.sq, by rw [List.length_map]; exact q.int⟩
  | dct l =>
    cases e
    obtain ⟨p, ep, es, rfl, h1, h2⟩ := ha.dict
    obtain ⟨u, rfl, rx⟩ := vals1 rr
    cases rx
    obtain ⟨z, hd, rs, m, er⟩ := dct_raw I h1 h2
    obtain ⟨es', mr, ee⟩ := m.mapRaw
    have hl : es'.size = l.length := by rw [ent_size ee, ← Paired.length er, h2.length]
    have hlo : l.length ≤ sizeLine := by rw [← h2.length]; exact z
    obtain ⟨o, ho, hx, hdat⟩ := mr
    refine Calls.call_function_entry kind_len plain_len entry_len (args_len1 _) (len_raw_body hd ⟨o, ho, hx, hdat⟩ (by rw [hl]; have := line63; omega) ⟨.int l.length, H, I.tok _, ⟨_, by rw [hl]⟩, q.int⟩)
  | _ => cases e
theorem b_tuple : CallR X (.type "tuple") (rB1 X al P .tuple false) := by
  intro pins s σ H xs us Q I rr h
  obtain ⟨x, a, r, rfl, ha, e, fr, q⟩ := h
  cases a with
  | lst l =>
    obtain ⟨f, e⟩ := need_bind e
    cases e
    obtain ⟨p, vs, rfl, h1, h2⟩ := ha.list
    exact call_tuple_of pins s σ H _ us Q I rr ⟨p, vs, rfl, .inl ⟨.inl (.inl h1), fun l' np => q.newT h2 np⟩⟩
  | tup l =>
    cases e
    obtain ⟨p, vs, rfl, h1, h2⟩ := ha.tupE
    exact call_tuple_of pins s σ H _ us Q I rr ⟨p, vs, rfl, .inr ⟨h1, q.old (.tup h1 h2) rfl⟩⟩
  | _ => simp [Ev.builtin] at e
theorem b_list : CallR X (.type "list") (rB1 X al P .list true) := by
  intro pins s σ H xs us Q I rr h
  obtain ⟨x, a, r, rfl, ha, e, fr, q⟩ := h
  cases a with
  | lst l =>
    obtain ⟨f, e⟩ := need_bind e
    cases e
    obtain ⟨p, vs, rfl, h1, h2⟩ := ha.list
    exact call_list_of pins s σ H _ us Q I rr ⟨p, vs, rfl, .inl (.inl (.inl h1)), fun l' np => q.newL h2 np (fr _ np)⟩
  | tup l =>
    obtain ⟨f, e⟩ := need_bind e
    cases e
    obtain ⟨p, vs, rfl, h1, h2⟩ := ha.tupE
    exact call_list_of pins s σ H _ us Q I rr ⟨p, vs, rfl, .inr h1, fun l' np => q.newL h2 np (fr _ np)⟩
  | _ => simp [Ev.builtin] at e
theorem b_dict (hc : X.calm = true) (hu : X.A.units + 64 < cLine) : CallR X (.type "dict") (rB1 X al P .dict true) := by
  intro pins s σ H xs us Q I rr h
  obtain ⟨x, a, r, rfl, ha, e, fr, q⟩ := h
  cases a with
  | lst l =>
    obtain ⟨ps, e1, e⟩ := Res.bind_eq_ok e
    obtain ⟨f, e⟩ := need_bind e
    cases e
    exact call_dictL hc hu pins s σ H _ us Q I rr ⟨x, l, ps, rfl, ha, e1, fr, q⟩
  | dct l => exact call_dictD pins s σ H _ us Q I rr ⟨x, l, r, rfl, ha, e, fr, q⟩
  | _ => cases e
theorem rzl_ints {w : World} {K : PySem.W.Frag} {H : Hp} : ∀ {l : List PV} {vs : List V} {n : Int}, RzL w K al H P vs l → Ev.sumOf l = .ok n → ∃ ns : List Int, vs = ns.map V.int ∧ n = ns.sum
  | [], _, _, r, e => by
    cases r
    cases e
    exact ⟨[], rfl, rfl⟩
  | d :: l, _, n, r, e => by
    cases r with
    | cons h t =>
      cases d <;> first | cases e | skip
      rename_i i
      obtain ⟨m, e1, e2⟩ := Res.bind_eq_ok e
      cases e2
      cases h
      obtain ⟨ns, rfl, rfl⟩ := rzl_ints t e1
      exact ⟨i :: ns, rfl, by rw [List.sum_cons]⟩
theorem rzl_bls {w : World} {K : PySem.W.Frag} {H : Hp} : ∀ {l : List PV} {vs : List V} {bs : List Bool}, RzL w K al H P vs l → Ev.boolsOf l = .ok bs → vs = bs.map V.bl
  | [], _, _, r, e => by
    cases r
    cases e
    rfl
  | d :: l, _, n, r, e => by
    cases r with
    | cons h t =>
      cases d <;> first | cases e | skip
      rename_i i
      obtain ⟨m, e1, e2⟩ := Res.bind_eq_ok e
      cases e2
      cases h
      rw [rzl_bls t e1]
      rfl
theorem b_all (hc : X.calm = true) : CallR X (.builtin "all") (rB1 X al P .all false) := by
  intro pins s σ H xs us Q I rr h
  obtain ⟨x, a, r, rfl, ha, e, fr, q⟩ := h
  cases a <;> first | cases e | skip
  rename_i l
  obtain ⟨bs, e1, e⟩ := Res.bind_eq_ok e
  cases e
  obtain ⟨p, vs, rfl, h1, h2⟩ := ha.list
  rw [rzl_bls h2 e1] at h1
  exact cr_all hc pins s σ H _ us Q I rr ⟨p, bs, rfl, .inl (.inl h1), q.bl⟩
theorem b_any (hc : X.calm = true) : CallR X (.builtin "any") (rB1 X al P .any false) := by
  intro pins s σ H xs us Q I rr h
  obtain ⟨x, a, r, rfl, ha, e, fr, q⟩ := h
  cases a <;> first | cases e | skip
  rename_i l
  obtain ⟨bs, e1, e⟩ := Res.bind_eq_ok e
  cases e
  obtain ⟨p, vs, rfl, h1, h2⟩ := ha.list
  rw [rzl_bls h2 e1] at h1
  exact cr_any hc pins s σ H _ us Q I rr ⟨p, bs, rfl, .inl (.inl h1), q.bl⟩
theorem b_abs : CallR X (.builtin "abs") (rB1 X al P .abs false) := by
  intro pins s σ H xs us Q I rr h
  obtain ⟨x, a, r, rfl, ha, e, fr, q⟩ := h
  cases a <;> first | cases e | skip
  rename_i i
  rw [ha.intE] at rr
  exact call_abs pins s σ H _ us Q I rr ⟨i, rfl, q.int⟩
theorem b_sum (hc : X.calm = true) : CallR X (.builtin "sum") (rB1 X al P .sum false) := by
  intro pins s σ H xs us Q I rr h
  obtain ⟨x, a, r, rfl, ha, e, fr, q⟩ := h
  cases a with
  | lst l =>
    obtain ⟨n, e1, e⟩ := Res.bind_eq_ok e
    cases e
    obtain ⟨p, vs, rfl, h1, h2⟩ := ha.list
    obtain ⟨ns, rfl, rfl⟩ := rzl_ints h2 e1
    exact cr_sum hc pins s σ H _ us Q I rr ⟨p, ns, rfl, .inl (.inl h1), q.int⟩
  | _ => simp [Ev.builtin] at e
theorem b_int : CallR X (.type "int") (rB1 X al P .int false) := by
  intro pins s σ H xs us Q I rr h
  obtain ⟨x, a, r, rfl, ha, e, fr, q⟩ := h
  cases a with
  | int i =>
    cases e
    rw [ha.intE] at rr
    exact call_int1 pins s σ H _ us Q I rr (.inl ⟨i, rfl, q.int⟩)
  | bl i =>
    cases e
    rw [ha.blE] at rr
    exact call_int1 pins s σ H _ us Q I rr (.inr ⟨i, rfl, q.int⟩)
  | _ => simp [Ev.builtin] at e
/-- min, max of a list, a tuple -/
theorem minD_of : ∀ (l : List PV) (x : PV), (∀ a ∈ x :: l, ∀ b ∈ x :: l, a.alike b = true) → (∀ a ∈ x :: l, a.plain = true) → PySem.W.minD (toD x) (toDs l) = toD (Ev.minOf x l)
  | [], x, _, _ => rfl
  | y :: l, x, h, p => by
    have e1 := dataLt_toD y x (h y (by simp) x (by simp)) (p y (by simp)) (p x (by simp))
    show PySem.W.minD (if PySem.W.dataLt (toD y) (toD x) then toD y else toD x) (toDs l) = toD (Ev.minOf (if y.ltb x then y else x) l)
    rw [e1]
    have sub : ∀ z, (z = y ∨ z = x) → ∀ a ∈ z :: l, a ∈ x :: y :: l := fun z hz a ha => by
      rcases List.mem_cons.mp ha with rfl | ha
      · rcases hz with rfl | rfl <;> simp
      · simp [ha]
    cases y.ltb x with
    | true => exact minD_of l y (fun a ha b hb => h a (sub y (.inl rfl) a ha) b (sub y (.inl rfl) b hb)) fun a ha => p a (sub y (.inl rfl) a ha)
    | false => exact minD_of l x (fun a ha b hb => h a (sub x (.inr rfl) a ha) b (sub x (.inr rfl) b hb)) fun a ha => p a (sub x (.inr rfl) a ha)
theorem maxD_of : ∀ (l : List PV) (x : PV), (∀ a ∈ x :: l, ∀ b ∈ x :: l, a.alike b = true) → (∀ a ∈ x :: l, a.plain = true) → PySem.W.maxD (toD x) (toDs l) = toD (Ev.maxOf x l)
  | [], x, _, _ => rfl
  | y :: l, x, h, p => by
    have e1 := dataLt_toD x y (h x (by simp) y (by simp)) (p x (by simp)) (p y (by simp))
    show PySem.W.maxD (if PySem.W.dataLt (toD x) (toD y) then toD y else toD x) (toDs l) = toD (Ev.maxOf (if x.ltb y then y else x) l)
    rw [e1]
    have sub : ∀ z, (z = y ∨ z = x) → ∀ a ∈ z :: l, a ∈ x :: y :: l := fun z hz a ha => by
      rcases List.mem_cons.mp ha with rfl | ha
      · rcases hz with rfl | rfl <;> simp
      · simp [ha]
    cases x.ltb y with
    | true => exact maxD_of l y (fun a ha b hb => h a (sub y (.inl rfl) a ha) b (sub y (.inl rfl) b hb)) fun a ha => p a (sub y (.inl rfl) a ha)
    | false => exact maxD_of l x (fun a ha b hb => h a (sub x (.inr rfl) a ha) b (sub x (.inr rfl) b hb)) fun a ha => p a (sub x (.inr rfl) a ha)
theorem minOf_mem : ∀ (l : List PV) (x : PV), Ev.minOf x l ∈ x :: l
  | [], x => by simp [Ev.minOf]
  | y :: l, x => by
    show Ev.minOf (if y.ltb x then y else x) l ∈ _
    cases y.ltb x with
    | true => have := minOf_mem l y; simp at this ⊢; rcases this with h | h <;> simp [h]
    | false => have := minOf_mem l x; simp at this ⊢; rcases this with h | h <;> simp [h]
theorem maxOf_mem : ∀ (l : List PV) (x : PV), Ev.maxOf x l ∈ x :: l
  | [], x => by simp [Ev.maxOf]
  | y :: l, x => by
    show Ev.maxOf (if x.ltb y then y else x) l ∈ _
    cases x.ltb y with
    | true => have := maxOf_mem l y; simp at this ⊢; rcases this with h | h <;> simp [h]
    | false => have := maxOf_mem l x; simp at this ⊢; rcases this with h | h <;> simp [h]
mutual
theorem toD_inj : ∀ a b : PV, a.alike b = true → toD a = toD b → a = b
  | .non, b, h, _ => by cases b <;> first | rfl | simp [Ev.PV.alike] at h
  | .bl x, b, h, e => by
    cases b with
    | bl y => simp [toD] at e; rw [e]
    | _ => simp [Ev.PV.alike] at h
  | .int x, b, h, e => by
    cases b with
    | int y => simp [toD] at e; rw [e]
    | _ => simp [Ev.PV.alike] at h
  | .str x, b, h, e => by
    cases b with
    | str y =>
      simp only [toD, PyData.str.injEq] at e
      rw [toS_inj.mp e]
    | _ => simp [Ev.PV.alike] at h
  | .tup x, b, h, e => by
    cases b with
    | tup y =>
      simp only [toD, PyData.tuple.injEq] at e
      rw [toDs_inj x y (by simpa [Ev.PV.alike] using h) e]
    | _ => simp [Ev.PV.alike] at h
  | .lst x, b, h, e => by
    cases b with
    | lst y =>
      simp only [toD, PyData.list.injEq] at e
      rw [toDs_inj x y (by simpa [Ev.PV.alike] using h) e]
    | _ => simp [Ev.PV.alike] at h
  | .dct _, _, h, _ => by simp [Ev.PV.alike] at h
  | .cel _, _, h, _ => by simp [Ev.PV.alike] at h
  | .scr _, _, h, _ => by simp [Ev.PV.alike] at h
theorem toDs_inj : ∀ a b : List PV, Ev.PV.alikeL a b = true → toDs a = toDs b → a = b
  | [], [], _, _ => rfl
  | [], _ :: _, _, e => by simp [toDs] at e
  | _ :: _, [], _, e => by simp [toDs] at e
  | x :: xs, y :: ys, h, e => by
    simp only [Ev.PV.alikeL, Bool.and_eq_true] at h
    simp only [toDs, List.cons.injEq] at e
    rw [toD_inj x y h.1 e.1, toDs_inj xs ys h.2 e.2]
end
theorem rzl_reads {pins : List (Addr × Obj)} {σ : L2.St} {s : Shared} {H : Hp} (I : Inv X pins σ H s) : ∀ {vs : List V} {us : List Value} {ds : List PV}, Vals vs us → RzL X.w X.K al H P vs ds → (∀ d ∈ ds, d.plain = true) → ∃ as, ReadsAll s.heap us (toDs ds) as
  | _, _, _, .nil, .nil, _ => ⟨_, .nil⟩
  | _, _, _, .cons r t, .cons (d := d) h1 h2, p => by
    obtain ⟨as, ra⟩ := Dp.reads I _ _ _ (rz_dp d (p d List.mem_cons_self) h1) r
    obtain ⟨bs, rb⟩ := rzl_reads I t h2 fun x hx => p x (List.mem_cons_of_mem _ hx)
    exact ⟨_, .cons ra rb⟩
/-- the value among those that reads as the best -/
theorem best_at {pins : List (Addr × Obj)} {σ : L2.St} {s : Shared} {H : Hp} (I : Inv X pins σ H s) {vs : List V} {us : List Value} {ds : List PV} {h' : Heap} {i : Nat} {v : Value} {b : PV} {bs : List Addr} (rv : Vals vs us) (rz : RzL X.w X.K al H P vs ds) (al' : ∀ a ∈ ds, ∀ b ∈ ds, a.alike b = true) (p : ∀ d ∈ ds, d.plain = true)
    (hb : b ∈ ds) (hi : us[i]? = some v) (rd : Reads h' v (toD b) bs) (k : ∀ b o, s.heap.get? b = some o → h'.get? b = some o) : ∃ x, RelV x v ∧ Rz X.w X.K al H P x b := by
  have li : i < ds.length := by
    rw [← rz.length, rv.length]
    exact (List.getElem?_eq_some_iff.mp hi).1
  obtain ⟨x, hx, rx⟩ := rz.get (List.getElem?_eq_getElem li)
  obtain ⟨u, hu, ru⟩ := rv.get hx
  rw [hi] at hu
  cases hu
  obtain ⟨as, ra⟩ := Dp.reads I _ _ _ (rz_dp ds[i] (p _ (List.getElem_mem li)) rx) ru
  have e := (PySem.Reads.unique (Reads.keeps k ra) _ _ rd).1
  have := toD_inj _ _ (al' _ (List.getElem_mem li) b hb) e
  rw [this] at rx
  exact ⟨x, ru, rx⟩
theorem toDs_mem {l : List PV} {d : PyData} : d ∈ toDs l ↔ ∃ x ∈ l, toD x = d := by
  rw [toDs_map, List.mem_map]
theorem depthL_le : ∀ {l : List PV}, (∀ x ∈ l, x.plain = true ∧ x.depth ≤ 60) → PyData.depthAll (toDs l) ≤ 60
  | [], _ => Nat.zero_le _
  | x :: l, h => by
    have h1 := h x List.mem_cons_self
    have h2 := depthL_le fun y hy => h y (List.mem_cons_of_mem _ hy)
    rw [toDs, PyData.depthAll, depth_toD x h1.1]
    omega
theorem alikeAll_D {l : List PV} (h : Ev.minable l = true) : PySem.W.AlikeAll (toDs l) := by
  obtain ⟨h1, h2, h3⟩ := minable_and h
  refine ⟨fun x hx y hy => ?_, fun x hx => ?_⟩
  · obtain ⟨a, ha, rfl⟩ := toDs_mem.mp hx
    obtain ⟨b, hb, rfl⟩ := toDs_mem.mp hy
    exact alike_toD a b (h1 a ha b hb)
  · obtain ⟨a, ha, rfl⟩ := toDs_mem.mp hx
    exact ne_none_of_isNon (h2 a ha) (h3 a ha).1
theorem b_min (hc : X.calm = true) (hu : X.A.units + 128 < cLine) : CallR X (.builtin "min") (rB1 X al P .min false) := by
  intro pins s σ H xs us Q I rr h
  obtain ⟨x, a, r, rfl, ha, e, fr, q⟩ := h
  cases a with
  | lst l =>
    cases l with
    | nil => simp [Ev.builtin] at e
    | cons d l =>
      obtain ⟨f, e⟩ := need_bind e
      cases e
      obtain ⟨h1, h2, h3⟩ := minable_and f
      obtain ⟨p, vs, rfl, k1, k2⟩ := ha.list
      obtain ⟨u, rfl, rx⟩ := vals1 rr
      cases rx
      obtain ⟨its, rv, pl, hz⟩ := I.list (.inl (.inl k1))
      obtain ⟨as, ra⟩ := rzl_reads I rv k2 fun d hd => (h3 d hd).1
      refine PySem.W.min_list_data (I.ok.hd hc) pl.isList (show ReadsAll s.heap its.toArray.toList (toDs (d :: l)) as by simpa using ra) (alikeAll_D f) (by have := depthL_le h3; show X.A.units + 1 + PyData.depthAll (toDs (d :: l)) < _; omega) fun i v h' tk bs hi rd k => ?_
      rw [minD_of l d h1 fun a ha => (h3 a ha).1] at rd
      obtain ⟨x, rx, rz⟩ := best_at I rv k2 h1 (fun a ha => (h3 a ha).1) (minOf_mem l d) (by simpa using hi) rd k
      exact ⟨x, H, I.kept (t' := tk) k, rx, q.pass rz⟩
  | tup l =>
    cases l with
    | nil => simp [Ev.builtin] at e
    | cons d l =>
      obtain ⟨f, e⟩ := need_bind e
      cases e
      obtain ⟨h1, h2, h3⟩ := minable_and f
      obtain ⟨p, vs, rfl, k1, k2⟩ := ha.tupE
      obtain ⟨u, rfl, rx⟩ := vals1 rr
      cases rx
      obtain ⟨its, rv, pl, hz⟩ := I.tuple k1
      obtain ⟨as, ra⟩ := rzl_reads I rv k2 fun d hd => (h3 d hd).1
      refine PySem.W.min_tuple_data (I.ok.hd hc) (show s.heap.IsTuple p its.toArray from pl) (show ReadsAll s.heap its.toArray.toList (toDs (d :: l)) as by simpa using ra) (alikeAll_D f) (by have := depthL_le h3; show X.A.units + 1 + PyData.depthAll (toDs (d :: l)) < _; omega) fun i v h' tk bs hi rd k => ?_
      rw [minD_of l d h1 fun a ha => (h3 a ha).1] at rd
      obtain ⟨x, rx, rz⟩ := best_at I rv k2 h1 (fun a ha => (h3 a ha).1) (minOf_mem l d) (by simpa using hi) rd k
      exact ⟨x, H, I.kept (t' := tk) k, rx, q.pass rz⟩
  | _ => simp [Ev.builtin] at e
theorem b_max (hc : X.calm = true) (hu : X.A.units + 128 < cLine) : CallR X (.builtin "max") (rB1 X al P .max false) := by
  intro pins s σ H xs us Q I rr h
  obtain ⟨x, a, r, rfl, ha, e, fr, q⟩ := h
  cases a with
  | lst l =>
    cases l with
    | nil => simp [Ev.builtin] at e
    | cons d l =>
      obtain ⟨f, e⟩ := need_bind e
      cases e
      obtain ⟨h1, h2, h3⟩ := minable_and f
      obtain ⟨p, vs, rfl, k1, k2⟩ := ha.list
      obtain ⟨u, rfl, rx⟩ := vals1 rr
      cases rx
      obtain ⟨its, rv, pl, hz⟩ := I.list (.inl (.inl k1))
      obtain ⟨as, ra⟩ := rzl_reads I rv k2 fun d hd => (h3 d hd).1
      refine PySem.W.max_list_data (I.ok.hd hc) pl.isList (show ReadsAll s.heap its.toArray.toList (toDs (d :: l)) as by simpa using ra) (alikeAll_D f) (by have := depthL_le h3; show X.A.units + 1 + PyData.depthAll (toDs (d :: l)) < _; omega) fun i v h' tk bs hi rd k => ?_
      rw [maxD_of l d h1 fun a ha => (h3 a ha).1] at rd
      obtain ⟨x, rx, rz⟩ := best_at I rv k2 h1 (fun a ha => (h3 a ha).1) (maxOf_mem l d) (by simpa using hi) rd k
      exact ⟨x, H, I.kept (t' := tk) k, rx, q.pass rz⟩
  | tup l =>
    cases l with
    | nil => simp [Ev.builtin] at e
    | cons d l =>
      obtain ⟨f, e⟩ := need_bind e
      cases e
      obtain ⟨h1, h2, h3⟩ := minable_and f
      obtain ⟨p, vs, rfl, k1, k2⟩ := ha.tupE
      obtain ⟨u, rfl, rx⟩ := vals1 rr
      cases rx
      obtain ⟨its, rv, pl, hz⟩ := I.tuple k1
      obtain ⟨as, ra⟩ := rzl_reads I rv k2 fun d hd => (h3 d hd).1
      refine PySem.W.max_tuple_data (I.ok.hd hc) (show s.heap.IsTuple p its.toArray from pl) (show ReadsAll s.heap its.toArray.toList (toDs (d :: l)) as by simpa using ra) (alikeAll_D f) (by have := depthL_le h3; show X.A.units + 1 + PyData.depthAll (toDs (d :: l)) < _; omega) fun i v h' tk bs hi rd k => ?_
      rw [maxD_of l d h1 fun a ha => (h3 a ha).1] at rd
      obtain ⟨x, rx, rz⟩ := best_at I rv k2 h1 (fun a ha => (h3 a ha).1) (maxOf_mem l d) (by simpa using hi) rd k
      exact ⟨x, H, I.kept (t' := tk) k, rx, q.pass rz⟩
  | _ => simp [Ev.builtin] at e
/-- sorted of a dict: its keys -/
theorem rzd_keys {w : World} {K : PySem.W.Frag} {H : Hp} : ∀ {es : List Ent} {ds : List (PV × PV)}, RzD w K al H P es ds → RzL w K al H P (es.map (·.2.1)) (ds.map (·.1))
  | _, _, .nil => .nil
  | _, _, .cons _ _ _ h _ t => .cons h (rzd_keys t)
theorem er_keys : ∀ {es : List Ent} {rs : List Row}, ER es rs → Vals (es.map (·.2.1)) (rs.map (·.2.1))
  | _, _, .nil => .nil
  | _, _, .cons h t => .cons h.2.1 (er_keys t)
theorem b_sorted (hc : X.calm = true) (hu : X.A.units + 128 < cLine) : CallR X (.builtin "sorted") (rB1 X al P .sorted true) := by
  intro pins s σ H xs us Q I rr h
  obtain ⟨x, a, r, rfl, ha, e, fr, q⟩ := h
  cases a with
  | lst l => exact call_sortedL hu pins s σ H _ us Q I rr ⟨x, _, l, r, rfl, ha, .inl rfl, e, fr, q⟩
  | tup l => exact call_sortedL hu pins s σ H _ us Q I rr ⟨x, _, l, r, rfl, ha, .inr rfl, e, fr, q⟩
  | dct l =>
    obtain ⟨p, ep, es, rfl, h1, h2⟩ := ha.dict
    obtain ⟨u, rfl, rx⟩ := vals1 rr
    cases rx
    obtain ⟨z, hd, rs, m, er⟩ := dct_raw I h1 h2
    obtain ⟨es', mr, ee⟩ := m.mapRaw
    refine sorted_rule I hu e fr q ?_
    refine PySem.W.kdu_collect (KdlSrc.rawDict (es := es') (ep := ep) hd) (I.ok.hd hc) mr (by rw [ent_size ee, ← Paired.length er]; exact z) fun h' tk acc k it => ?_
    refine ⟨H, es.map (·.2.1), l.map (·.1), I.kept (t' := tk) k, ?_, rzd_keys h2, List.Perm.refl _, Same.refl H, k⟩
    have e2 : acc.toList = rs.map (·.2.1) := by
      apply List.ext_getElem?
      intro i
      rw [Array.getElem?_toList, List.getElem?_map]
      cases g : acc[i]? with
      | none =>
        have g := Array.getElem?_eq_none_iff.mp g
        rw [it.1, ent_size ee] at g
        rw [List.getElem?_eq_none_iff.mpr g]
        rfl
      | some v =>
        obtain ⟨lt, ev⟩ := it.2 i v g
        have h3 : es'[i]? = some es'[i] := Array.getElem?_eq_getElem lt
        rw [ent_at ee] at h3
        obtain ⟨rr, h4, h5⟩ := Option.map_eq_some_iff.mp h3
        rw [h4, ev, ← h5]
        rfl
    rw [e2]
    exact er_keys er
  | _ => simp [Ev.builtin] at e
end
end EvB
end

section
set_option autoImplicit false
set_option Elab.async false
set_option linter.all false
set_option maxRecDepth 100000
set_option maxHeartbeats 1000000
namespace EvB
open PySem PySem.Spec PyProof.Rows L2
open Ev (PV Store Res EnvV CallF CE)
def pyT : Ev.Ty → String
  | .int => "int" | .bool => "bool" | .str => "str" | .tuple => "tuple" | .list => "list" | .dict => "dict"
section
variable {X : Cx} {al : List Addr} {P : Addr → Prop}
theorem obj_of {w : World} {pins : List (Addr × Obj)} {σ : L2.St} {s : Shared} {H : Hp} {x : V} {a : PV} {v : Value} {T : String} (I : Inv X pins σ H s) (r : Rt X.w X.K al H P x a) (rv : RelV x v) (h : (T = "list" ∧ ∃ l, a = .lst l) ∨ (T = "tuple" ∧ ∃ l, a = .tup l) ∨ (T = "dict" ∧ ∃ l, a = .dct l)) :
    ∃ p o, v = .ref p ∧ s.heap.get? p = some o ∧ o.cls = .type T := by
  rcases h with ⟨rfl, l, rfl⟩ | ⟨rfl, l, rfl⟩ | ⟨rfl, l, rfl⟩
  · obtain ⟨p, vs, rfl, h1, h2⟩ := r.list
    obtain ⟨its, _, ⟨o, n, ho, hc, hd, _⟩, _⟩ := I.list (.inl (.inl h1))
    exact ⟨p, o, rv, ho, hc⟩
  · obtain ⟨p, vs, rfl, h1, h2⟩ := r.tupE
    obtain ⟨its, _, ⟨o, ho, hc, _⟩, _⟩ := I.tuple h1
    exact ⟨p, o, rv, ho, hc⟩
  · obtain ⟨p, ep, es, rfl, h1, h2⟩ := r.dict
    obtain ⟨_, _, rs, ⟨⟨o, es', ho, hx, _⟩, _⟩, _⟩ := dct_raw I h1 h2
    exact ⟨p, o, rv, ho, hx.1⟩
theorem b_isi (t : Ev.Ty) : CallR X (.builtin "isinstance") (fun xs H Q => ∃ x a, xs = [x, .ty (pyT t)] ∧ Rt X.w X.K al H P x a ∧ Ev.isCel a = false ∧ Ev.isScr a = false ∧ Q (.bl (Ev.isTy t a)) H) := by
  intro pins s σ H xs us Q I rr h
  obtain ⟨x, a, rfl, ha, n1, n2, q⟩ := h
  obtain ⟨u, u2, rfl, rx, r2⟩ := vals2 rr
  cases (show u2 = Value.type (pyT t) from r2)
  have fin : ∀ tk, EP X pins σ Q (.bool (Ev.isTy t a)) { s with toks := tk } := fun tk => ⟨.bl _, H, I.tok tk, rfl, q⟩
  cases a with
  | non =>
    rw [ha.nonE] at rx
    cases rx
    cases t with
    | int => exact IsiPair.NoneType_int (fin _)
    | bool => exact IsiPair.NoneType_bool (fin _)
    | str => exact IsiPair.NoneType_str (fin _)
    | tuple => exact IsiPair.NoneType_tuple (fin _)
    | list => exact IsiPair.NoneType_list (fin _)
    | dict => exact IsiPair.NoneType_dict (fin _)
  | bl i =>
    rw [ha.blE] at rx
    cases rx
    cases t with
    | int => exact IsiPair.bool_int (fin _)
    | bool => exact IsiPair.bool_bool (fin _)
    | str => exact IsiPair.bool_str (fin _)
    | tuple => exact IsiPair.bool_tuple (fin _)
    | list => exact IsiPair.bool_list (fin _)
    | dict => exact IsiPair.bool_dict (fin _)
  | int i =>
    rw [ha.intE] at rx
    obtain ⟨tk, rfl⟩ := rx
    cases t with
    | int => exact IsiPair.int_int (fin _)
    | bool => exact IsiPair.int_bool (fin _)
    | str => exact IsiPair.int_str (fin _)
    | tuple => exact IsiPair.int_tuple (fin _)
    | list => exact IsiPair.int_list (fin _)
    | dict => exact IsiPair.int_dict (fin _)
  | str l =>
    rw [ha.strE] at rx
    obtain ⟨tk, rfl⟩ := rx
    cases t with
    | int => exact IsiPair.str_int (fin _)
    | bool => exact IsiPair.str_bool (fin _)
    | str => exact IsiPair.str_str (fin _)
    | tuple => exact IsiPair.str_tuple (fin _)
    | list => exact IsiPair.str_list (fin _)
    | dict => exact IsiPair.str_dict (fin _)
  | lst l =>
    obtain ⟨p, o, rfl, ho, hc⟩ := obj_of (w := X.w) I ha rx (.inl ⟨rfl, l, rfl⟩)
    cases t with
    | int => exact IsiPair.list_int ho hc (fin _)
    | bool => exact IsiPair.list_bool ho hc (fin _)
    | str => exact IsiPair.list_str ho hc (fin _)
    | tuple => exact IsiPair.list_tuple ho hc (fin _)
    | list => exact IsiPair.list_list ho hc (fin _)
    | dict => exact IsiPair.list_dict ho hc (fin _)
  | tup l =>
    obtain ⟨p, o, rfl, ho, hc⟩ := obj_of (w := X.w) I ha rx (.inr (.inl ⟨rfl, l, rfl⟩))
    cases t with
    | int => exact IsiPair.tuple_int ho hc (fin _)
    | bool => exact IsiPair.tuple_bool ho hc (fin _)
    | str => exact IsiPair.tuple_str ho hc (fin _)
    | tuple => exact IsiPair.tuple_tuple ho hc (fin _)
    | list => exact IsiPair.tuple_list ho hc (fin _)
    | dict => exact IsiPair.tuple_dict ho hc (fin _)
  | dct l =>
    obtain ⟨p, o, rfl, ho, hc⟩ := obj_of (w := X.w) I ha rx (.inr (.inr ⟨rfl, l, rfl⟩))
    cases t with
    | int => exact IsiPair.dict_int ho hc (fin _)
    | bool => exact IsiPair.dict_bool ho hc (fin _)
    | str => exact IsiPair.dict_str ho hc (fin _)
    | tuple => exact IsiPair.dict_tuple ho hc (fin _)
    | list => exact IsiPair.dict_list ho hc (fin _)
    | dict => exact IsiPair.dict_dict ho hc (fin _)
  | cel _ => cases n1
  | scr _ => cases n2
end
section
variable {X : Cx} {cf : CallF} {gl : Nat → Option PV} {x : Str} {p pos p2 : Pos} {e : Expr} {c : CE}
/-- one argument: its own value, and its parts -/
def tOne (t : TE) : TA := fun σ H Q => t σ H fun v H' => Q [v] H'
theorem pa_one {t : TE} (h : PE X e t) (hs : notStar e = true) : PA X [e] (tOne t) := (pa_cons h pa_nil (starEach_cons hs)).to fun σ H Q q => q
def biF : Ev.Bi → Bool
  | .list => true | .dict => true | .sorted => true | _ => false
theorem biF_fresh (b : Ev.Bi) : (CE.bi b [c]).fresh = biF b := by cases b <;> rfl
theorem bi1_inv {b : Ev.Bi} {env : EnvV} {S S' : Store} {r : PV} (h : Ev.evE cf gl env (.bi b [c]) S = .ok (r, S')) : ∃ x, Ev.evE cf gl env c S = .ok (x, S') ∧ Ev.builtin b [x] = .ok r := by
  simp only [Ev.evE, Ev.evL] at h
  obtain ⟨xs, S1, h1, h⟩ := bindP h
  dsimp only at h
  obtain ⟨y, S2, h2, h1⟩ := bindP h1
  dsimp only at h1
  cases h1
  obtain ⟨k, h3, h⟩ := Res.bind_eq_ok h
  cases h
  exact ⟨y, h2, h3⟩
theorem ce_biB {b : Ev.Bi} {id : String} (hr : ∀ al P, CallR X (.builtin id) (rB1 X al P b (biF b))) (hg : Gl X x) (hm : X.mg x = none) (hv : bootBuiltins x = some (.builtin id)) (ha : PE X e (tEv X cf gl c)) (hs : notStar e = true) (hn : x ≠ "__name__") (hdb : (x == ("__debug__" : Str)) = false) :
    PE X (.Call (.Name x p) [e] [] pos) (tEv X cf gl (.bi b [c])) := by
  refine ⟨fun pins s σ H Q I ⟨Z, env, S, r, S', ee, st, eo, q⟩ => ?_⟩
  obtain ⟨y, h1, h2⟩ := bi1_inv ee
  refine (pe_callB (hr Z.al (Z.at c.pv)) hg hm hv (pa_one ha hs) hn hdb (starEach_cons hs) (bplain rfl)).run pins s σ H Q I ⟨Z, env, S, y, S', h1, st, eo, fun v H1 p1 => ?_⟩
  exact ⟨v, y, r, rfl, p1.rt, h2, p1.st.new _, Yes.post (b := biF b) p1.xt p1.st (fun z => z) (fun i h => h) fun w H' p' => q w H' (p'.sub (fun i h => h) (fun i h => h) fun z => by rw [biF_fresh] at z; exact z)⟩
theorem ce_biT {b : Ev.Bi} {T : String} (hr : ∀ al P, CallR X (.type T) (rB1 X al P b (biF b))) (hg : Gl X x) (hm : X.mg x = none) (hv : bootBuiltins x = some (.type T)) (ha : PE X e (tEv X cf gl c)) (hs : notStar e = true) (hn : x ≠ "__name__") (hdb : (x == ("__debug__" : Str)) = false) :
    PE X (.Call (.Name x p) [e] [] pos) (tEv X cf gl (.bi b [c])) := by
  refine ⟨fun pins s σ H Q I ⟨Z, env, S, r, S', ee, st, eo, q⟩ => ?_⟩
  obtain ⟨y, h1, h2⟩ := bi1_inv ee
  refine (pe_callTy (hr Z.al (Z.at c.pv)) hg hm hv (pa_one ha hs) hn hdb (starEach_cons hs) (bplain rfl)).run pins s σ H Q I ⟨Z, env, S, y, S', h1, st, eo, fun v H1 p1 => ?_⟩
  exact ⟨v, y, r, rfl, p1.rt, h2, p1.st.new _, Yes.post (b := biF b) p1.xt p1.st (fun z => z) (fun i h => h) fun w H' p' => q w H' (p'.sub (fun i h => h) (fun i h => h) fun z => by rw [biF_fresh] at z; exact z)⟩
theorem ce_isi {t : Ev.Ty} {y : Str} (hg : Gl X "isinstance") (hm : X.mg "isinstance" = none) (hv : bootBuiltins "isinstance" = some (.builtin "isinstance")) (hg2 : Gl X y) (hm2 : X.mg y = none) (hv2 : bootBuiltins y = some (.type (pyT t))) (ha : PE X e (tEv X cf gl c)) (hs : notStar e = true)
    (hn2 : y ≠ "__name__") (hdb2 : (y == ("__debug__" : Str)) = false) : PE X (.Call (.Name "isinstance" p) [e, .Name y p2] [] pos) (tEv X cf gl (.isi t c)) := by
  refine ⟨fun pins s σ H Q I ⟨Z, env, S, r, S', ee, st, eo, q⟩ => ?_⟩
  simp only [Ev.evE] at ee
  obtain ⟨a, S1, h1, ee⟩ := bindP ee
  dsimp only at ee
  obtain ⟨f, ee⟩ := need_bind ee
  cases ee
  obtain ⟨f1, f2⟩ := Bool.and_eq_true_iff.mp f
  have p2' : PE X (.Name y p2) (tC (.ty (pyT t))) := pe_bltn hg2 hm2 hv2 rfl hn2 hdb2
  refine (pe_callB (b_isi (al := Z.al) (P := Z.at c.pv) t) hg hm hv (pa_cons ha (pa_cons p2' pa_nil (starEach_cons rfl)) (starEach_cons hs)) (by decide) (by decide) (starEach_cons hs) (bplain rfl)).run pins s σ H Q I ⟨Z, env, S, a, S', h1, st, eo, fun v H1 p1 => ?_⟩
  exact ⟨v, a, rfl, p1.rt, by simpa using f1, by simpa using f2, q _ _ ⟨p1.xt, p1.st, .bl _, .of (.bl _), fun z => by cases z⟩⟩
end
end EvB
end

section
set_option autoImplicit false
set_option Elab.async false
set_option linter.all false
set_option maxRecDepth 100000
set_option maxHeartbeats 1000000
/-! methods -/
namespace EvB
open PySem PySem.Spec PyProof.Rows L2
open Ev (PV Store Res EnvV CallF CE)
section
variable {X : Cx} {al : List Addr} {P : Addr → Prop}
def rM (X : Cx) (al : List Addr) (P : Addr → Prop) (m : Ev.Mth) : V → List V → Hp → VK → Prop := fun x xs H Q => ∃ a args r, Rt X.w X.K al H P x a ∧ RzL X.w X.K al H P xs args ∧ Ev.method m a args = .ok r ∧ Yes X.w X.K al H P false r Q
theorem countP_toD {x : PV} (px : x.plain = true) : ∀ l : List PV, Ev.PV.plainL l = true → ((toDs l).countP fun z => PyData.eqv z (toD x)) = l.countP fun z => z.eqv x
  | [], _ => rfl
  | y :: l, h => by
    simp only [Ev.PV.plainL, Bool.and_eq_true] at h
    simp only [toDs, List.countP_cons, eqv_toD y x h.1 px, countP_toD px l h.2]
theorem plainL_mem : ∀ {l : List PV}, Ev.PV.plainL l = true → ∀ x ∈ l, x.plain = true
  | [], _, x, h => by cases h
  | y :: l, p, x, h => by
    simp only [Ev.PV.plainL, Bool.and_eq_true] at p
    rcases List.mem_cons.mp h with rfl | h
    · exact p.1
    · exact plainL_mem p.2 x h
theorem m_count (hu : X.A.units + 128 < cLine) : MtR X "list.count" (rM X al P .count) := by
  intro pins s σ H x xs v us Q I rx rs h
  obtain ⟨a, args, r, ha, hx, e, q⟩ := h
  cases a <;> first | (simp [Ev.method] at e; done) | skip
  rename_i l
  match args, hx, e with
  | [], hx, e => simp [Ev.method] at e
  | [d], hx, e =>
    obtain ⟨f, e⟩ := need_bind e
    cases e
    simp only [Bool.and_eq_true, decide_eq_true_eq] at f
    obtain ⟨⟨pl, dl⟩, od⟩ := f
    obtain ⟨pd, dd⟩ := okD_and od
    cases hx with
    | cons h1 t =>
      cases t
      obtain ⟨u, rfl, ru⟩ := vals1 rs
      obtain ⟨p, vs, rfl, k1, k2⟩ := ha.list
      cases rx
      obtain ⟨its, rv, po, hz⟩ := I.list (.inl (.inl k1))
      obtain ⟨as, ra⟩ := rzl_reads I rv k2 fun d hd => plainL_mem pl d hd
      obtain ⟨bs, rb⟩ := Dp.reads I _ _ _ (rz_dp d pd h1) ru
      refine PySem.SeqAt.count_list_data po.isList (show ReadsAll s.heap its.toArray.toList (toDs l) as by simpa using ra) rb (plain_toDs l pl) (plain_toD d pd) (by rw [depth_toDs l pl, depth_toD d pd]; omega) ?_
      rw [countP_toD pd l pl]
      exact ⟨.int _, H, I.tok _, ⟨_, rfl⟩, q.int⟩
  | _ :: _ :: _, hx, e => simp [Ev.method] at e
theorem m_get (hu : X.A.units + 64 < cLine) : MtR X "dict.get" (rM X al P .get) := by
  intro pins s σ H x xs v us Q I rx rs h
  obtain ⟨a, args, r, ha, hx, e, q⟩ := h
  cases a <;> first | (simp [Ev.method] at e; done) | skip
  rename_i l
  match args, hx, e with
  | [], hx, e => simp [Ev.method] at e
  | [k], hx, e =>
    obtain ⟨f, e⟩ := need_bind e
    cases e
    cases hx with
    | cons h1 t =>
      cases t
      exact mt_get hu pins s σ H x _ v us Q I rx rs ⟨l, k, _, _, ha, f, .of h1, .inl ⟨rfl, rfl, q⟩⟩
  | [k, d], hx, e =>
    obtain ⟨f, e⟩ := need_bind e
    cases e
    cases hx with
    | cons h1 t =>
      cases t with
      | cons h2 t =>
        cases t
        exact mt_get hu pins s σ H x _ v us Q I rx rs ⟨l, k, _, _, ha, f, .of h1, .inr ⟨_, d, rfl, h2, rfl, q⟩⟩
  | _ :: _ :: _ :: _, hx, e => simp [Ev.method] at e
/-- of what type a method's object is -/
def mthT : Ev.Mth → String
  | .get => "dict" | .index => "list" | .count => "list" | .join => "str" | .split => "str"
theorem mth_ty {m : Ev.Mth} {w : World} {pins : List (Addr × Obj)} {σ : L2.St} {s : Shared} {H : Hp} {x : V} {v : Value} {a : PV} {args : List PV} {r : PV} (I : Inv X pins σ H s) (rx : RelV x v) (ha : Rt X.w X.K al H P x a) (e : Ev.method m a args = .ok r) :
    s.TypeIs v (mthT m) ∧ ∀ p, v = .ref p → ∃ ob, s.heap.get? p = some ob ∧ ob.dict = none := by
  cases m with
  | get =>
    cases a <;> first | (simp [Ev.method] at e; done) | skip
    obtain ⟨p, ep, es, rfl, h1, h2⟩ := ha.dict
    obtain ⟨_, _, rs, ⟨⟨o, es', ho, hx, _⟩, _⟩, _⟩ := dct_raw I h1 h2
    cases rx
    exact ⟨⟨o, ho, hx.1⟩, fun b z => by cases z; exact ⟨o, ho, hx.2.1⟩⟩
  | count =>
    cases a <;> first | (simp [Ev.method] at e; done) | skip
    obtain ⟨p, vs, rfl, h1, h2⟩ := ha.list
    obtain ⟨its, _, ⟨o, n, ho, hc, hd, _⟩, _⟩ := I.list (.inl (.inl h1))
    cases rx
    exact ⟨⟨o, ho, hc⟩, fun b z => by cases z; exact ⟨o, ho, hd⟩⟩
  | _ => cases a <;> simp [Ev.method] at e
end
def notCall0 : Expr → Bool
  | .Call (.Name _ _) [] [] _ => false
  | _ => true
theorem baseOk {o : Expr} {n : Str} {env : Env} (h : notCall0 o = true) : attributeBase o n env (eval o env) = eval o env := by
  unfold attributeBase
  split
  · cases h
  · rfl
section
variable {X : Cx} {cf : CallF} {gl : Nat → Option PV} {x : Str} {apos cpos : Pos} {o e : Expr} {es : List Expr} {co c : CE} {cs : List CE}
theorem meth_inv {m : Ev.Mth} {env : EnvV} {S S' : Store} {r : PV} (h : Ev.evE cf gl env (.meth m co cs) S = .ok (r, S')) : ∃ a S1 args, Ev.evE cf gl env co S = .ok (a, S1) ∧ Ev.evL cf gl env cs S1 = .ok (args, S') ∧ Ev.method m a args = .ok r := by
  simp only [Ev.evE] at h
  obtain ⟨a, S1, h1, h⟩ := bindP h
  dsimp only at h
  obtain ⟨args, S2, h2, h⟩ := bindP h
  dsimp only at h
  obtain ⟨k, h3, h⟩ := Res.bind_eq_ok h
  cases h
  exact ⟨a, S1, args, h1, h2, h3⟩
theorem kplain {env : Env} : (backToKw cpos (keywordEach [] env)).all (fun x => x.1.isSome) = true := rfl
theorem allplain {es : List Expr} {env : Env} (h : es.all notStar = true) : (backTo cpos (starEach es env)).all (fun x => !x.1) = true := by
  have := bplain (pos := cpos) (env := env) h
  rw [List.any_eq_false] at this
  rw [List.all_eq_true]
  intro y hy
  have := this y hy
  simpa using this
theorem ce_meth {m : Ev.Mth} {name : Str} {id : String} (hu : ∀ al P, MtR X id (rM X al P m)) (pa : PlainAttrs (mthT m)) (slot : Slot (mthT m) name id) (hty : typeOf (.builtin id) = pure (.type "method_descriptor")) (ho : PE X o (tEv X cf gl co)) (ha : PA X (e :: es) (tEvL X cf gl (c :: cs)))
    (h0 : notCall0 o = true) (hs : (e :: es).all notStar = true) (hl : (e :: es).length < 29) (hline : (apos.endLine == cpos.line) = true) :
    PE X (.Call (.Attribute o name apos) (e :: es) [] cpos) (tEv X cf gl (.meth m co (c :: cs))) := by
  obtain ⟨hs1, hs2⟩ := Bool.and_eq_true_iff.mp (show (notStar e && es.all notStar) = true from hs)
  refine ⟨fun pins s σ H Q I ⟨Z, env, S, r, S', ee, st, eo, q⟩ => ?_⟩
  obtain ⟨a, S1, args, e1, e2, e3⟩ := meth_inv ee
  have few : ((backTo cpos (starEach (e :: es) X.env)).all (fun x => !x.1) && (backToKw cpos (keywordEach [] X.env)).all (fun x => x.1.isSome) && decide ((e :: es).length + ([] : List Keyword).length + (if ([] : List Keyword).isEmpty then 0 else 1) < 30)) = true := by
    rw [allplain hs, kplain]
    simp at hl ⊢
    omega
  refine wpAny_Call_method_late (baseOk h0) few hline rfl (thn (ho.run pins s σ H (fun v H1 => Post X Z H co.tv co.pv co.fresh a S1 v H1) I ⟨Z, env, S, a, S1, e1, st, eo, fun v H1 p1 => p1⟩) fun v s1 ⟨x, H1, I1, r1, p1⟩ => ?_)
  obtain ⟨t1, t2⟩ := mth_ty (w := X.w) I1 r1 p1.rt e3
  refine ⟨mthT m, id, pa, slot, hty, t1, t2, ?_⟩
  have hA := ha.run cpos pins s1 σ H1 (fun vs H2 => PostL X Z H1 (Ev.tvL (c :: cs)) args S' vs H2) I1 ⟨Z, env, S1, args, S', e2, p1.st, eo.xt p1.xt, fun vs H2 p2 => p2⟩
  rw [starEach_cons hs1] at hA ⊢
  refine Calls.callWith_builtin (by show (false || (backTo cpos (starEach es X.env)).any (·.1)) = false; rw [bplain hs2] <;> rfl) (Calls.evalArgs_plain ?_)
  refine thn hA fun us s2 ⟨vs, H2, I2, r2, p2⟩ => hu Z.al (Z.at (co.pv ++ Ev.tvL (c :: cs))) pins s2 σ H2 x vs v us Q I2 r1 r2 ⟨a, args, r, rt_sub (rt_xt p2.xt p1.rz p1.rt) fun i h => List.mem_append_left _ h, rzl_sub p2.rz fun i h => List.mem_append_right _ h, e3, ?_⟩
  exact Yes.post (b := false) (p1.xt.trans p2.xt) p2.st (fun z => z) (fun i h => h) q
end
end EvB
end

section
set_option autoImplicit false
set_option Elab.async false
set_option linter.all false
set_option maxRecDepth 100000
set_option maxHeartbeats 1000000
/-! walks -/
namespace EvB
open PySem PySem.Spec PyProof.Rows L2
open Ev (PV Store Res EnvV CallF CE)
/-- the keys of a dict that stays as it is -/
def ItD (w : World) (d : Addr) (ep : Nat) (es : List Ent) : It :=
  ⟨fun i H => H d = some (DctO w d ep es) ∧ i < es.length, fun i H x H' => H' = H ∧ ∃ e, es[i]? = some e ∧ x = e.2.1, fun i H => H d = some (DctO w d ep es) ∧ es.length ≤ i⟩
section
variable {P : Program} {w : World} {K : PySem.W.Frag} {tg : Expr}
theorem turn_D (d it : Addr) (ep : Nat) (es : List Ent) : Turn P w K tg (ItD w d ep es) [it] it (fun i h => h.IsKeyIter it d i es.length ep) where
  mem := by simp
  obj := fun i h st b hb => by
    have e : b = it := by simpa using hb
    subst e
    obtain ⟨oi, e, c, dd⟩ := st
    exact ⟨oi, e, fun v z => by rw [dd] at z; cases z⟩
  keep := fun i h h' st k => st.at fun oi e => k it (by simp) oi e
  item := by
    intro X hP hw hK hc i pins s σ H E I hf st hg
    subst hP hw hK
    obtain ⟨hd, hi⟩ := hg
    obtain ⟨f0, f1, f2, f3, f4, f5⟩ := hf it (by simp)
    obtain ⟨⟨z, hdn, nd, o, es', ho, hx, hdat, pr⟩, _, _⟩ := I.hok d _ hd
    have hkv : es[i]? = some es[i] := List.getElem?_eq_getElem hi
    obtain ⟨en, hen, _, rk, _⟩ := paired_get pr hkv
    have hsz : es'.size = es.length := by rw [← Array.length_toList, ← Paired.length pr]
    rw [Array.getElem?_toList] at hen
    refine next_key_item st ho hdat hsz hen fun h' st' sb => ?_
    have I1 : Inv X pins σ H { s with heap := h' } := I.turned (t' := s.toks) (fun b ob hb e => (sb.2 b hb).trans e) f0 f1 f3 f4 f5
    obtain ⟨oi, e, c, dd⟩ := id st'
    exact ⟨en.key, rfl, go_of (s := { s with heap := h' }) e c dd (by decide) ⟨es[i].2.1, H, I1, rk, ⟨rfl, es[i], hkv, rfl⟩, st', fun b hb => (hf b hb).1⟩⟩
  done := by
    intro X hP hw hK hc i pins s σ H E I hf st hg
    subst hP hw hK
    obtain ⟨hd, hi⟩ := hg
    obtain ⟨f0, f1, f2, f3, f4, f5⟩ := hf it (by simp)
    obtain ⟨⟨z, hdn, nd, o, es', ho, hx, hdat, pr⟩, _, _⟩ := I.hok d _ hd
    have hsz : es'.size = es.length := by rw [← Array.length_toList, ← Paired.length pr]
    exact next_key_end (I.ok.hd hc) st ho hdat hsz hi fun h' eb => ⟨rfl, I.turned (t' := s.toks) (fun b ob hb e => eb b ob hb e) f0 f1 f3 f4 f5⟩
  self := fun A i s Q E st h => by
    refine wpAny_pyIter_slot st.typeIs F.slot_dict_keyiterator_iter (wpAny_call_entry F.slot_dict_keyiterator_iter st.typeIs F.entry_dict_keyiterator_iter ?_ (F.args_dict_keyiterator_iter_1 _))
    show wpAny _ _ (ret (.ref it)) _ _ s
    exact wpAny_pure ⟨_, rfl, "dict_keyiterator", _, st.typeIs, F.slot_dict_keyiterator_next.lookup, h⟩
end
/-- what a walk goes over: the value, where its objects may be -/
structure Src where
  v : V
  r : PV
  tv : List Nat
  pv : List Nat
structure SrcOk (X : Cx) (Z : Sit) (H : Hp) (p : Src) : Prop where
  rz : Rz X.w X.K Z.al H (Z.at p.tv) p.v p.r
  rt : Rt X.w X.K Z.al H (Z.at p.pv) p.v p.r
/-- what the walk's sources are to keep: themselves, and their parts -/
def Keeps (X : Cx) (Z : Sit) (H1 H' : Hp) (P : Addr → Prop) (p : Src) : Prop := (∀ a, p.v = .ref a → p.r.isMut = true → H' a = H1 a) ∧ ∀ u d, (p.r.imm = true → d.imm = true) → Rz X.w X.K Z.al H1 (Z.at p.pv) u d → Rz X.w X.K Z.al H' P u d
/-- a walk yields l as long as its sources stay -/
def Feeds (X : Cx) (Z : Sit) (H1 : Hp) (ps : List Src) (l : List PV) (J : It) : Prop := ∀ (H' : Hp) (P : Addr → Prop), (∀ p ∈ ps, Keeps X Z H1 H' P p) → (∀ b xs, SqT X.K H1 b xs → SqT X.K H' b xs) →
  (∀ i, l.length ≤ i → J.stop i H') ∧ ∀ i d, l[i]? = some d → J.go i H' ∧ ∀ x H'', J.yld i H' x H'' → Same H' H'' ∧ Rz X.w X.K Z.al H'' P x d
theorem rzl_at {w : World} {K : PySem.W.Frag} {al : List Addr} {H : Hp} {P : Addr → Prop} : ∀ {i : Nat} {vs : List V} {ds : List PV} {d : PV}, RzL w K al H P vs ds → ds[i]? = some d → ∃ v, vs[i]? = some v ∧ Rz w K al H P v d
  | 0, _, _, _, .cons r t, e => by
    cases e
    exact ⟨_, rfl, r⟩
  | i + 1, _, _, _, .cons r t, e => rzl_at (i := i) t e
theorem rzd_at {w : World} {K : PySem.W.Frag} {al : List Addr} {H : Hp} {P : Addr → Prop} : ∀ {i : Nat} {vs : List Ent} {ds : List (PV × PV)} {d : PV}, RzD w K al H P vs ds → (ds.map (·.1))[i]? = some d → ∃ v, vs[i]? = some v ∧ Rz w K al H P v.2.1 d
  | 0, _, _, _, .cons _ _ _ r _ t, e => by
    cases e
    exact ⟨_, rfl, r⟩
  | i + 1, _, _, _, .cons _ _ _ _ _ t, e => rzd_at (i := i) t e
theorem immL_at : ∀ {i : Nat} {l : List PV} {d : PV}, Ev.PV.immL l = true → l[i]? = some d → d.imm = true
  | 0, x :: l, d, h, e => by
    cases e
    simp only [Ev.PV.immL, Bool.and_eq_true] at h
    exact h.1
  | i + 1, x :: l, d, h, e => by
    simp only [Ev.PV.immL, Bool.and_eq_true] at h
    exact immL_at (i := i) h.2 e
section
variable {X : Cx} {Z : Sit} {H1 : Hp} {v : V} {tv pv : List Nat} {a : Addr}
theorem feeds_lst {l : List PV} {xs : List V} (hv : v = .ref a) (h1 : H1 a = some (.lst xs)) (h2 : RzL X.w X.K Z.al H1 (Z.at pv) xs l) : Feeds X Z H1 [⟨v, .lst l, tv, pv⟩] l (Itl X.K a) := fun H' P h _ => by
  obtain ⟨k, c⟩ := h _ List.mem_cons_self
  have k := (k a hv rfl).trans h1
  have hl := h2.length
  refine ⟨fun i hi => ⟨xs, .inl (.inl k), by omega⟩, fun i d hd => ?_⟩
  obtain ⟨x, hx, rx⟩ := rzl_at h2 hd
  refine ⟨⟨xs, x, .inl (.inl k), hx⟩, fun y H'' q => ?_⟩
  obtain ⟨rfl, q⟩ := q
  have := q xs (.inl (.inl k))
  rw [hx] at this
  cases this
  exact ⟨fun _ _ z => z, c _ _ (fun z => by cases z) rx⟩
theorem feeds_tup {l : List PV} {xs : List V} (h1 : SqT X.K H1 a xs) (h2 : RzL X.w X.K Z.al H1 (Z.at pv) xs l) : Feeds X Z H1 [⟨v, .tup l, tv, pv⟩] l (Itt X.K a) := fun H' P h t => by
  obtain ⟨_, c⟩ := h _ List.mem_cons_self
  have h1 := t _ _ h1
  have hl := h2.length
  refine ⟨fun i hi => ⟨xs, h1, by omega⟩, fun i d hd => ?_⟩
  obtain ⟨x, hx, rx⟩ := rzl_at h2 hd
  refine ⟨⟨xs, x, h1, hx⟩, fun y H'' q => ?_⟩
  obtain ⟨rfl, q⟩ := q
  have := q xs h1
  rw [hx] at this
  cases this
  exact ⟨fun _ _ z => z, c _ _ (fun z => immL_at (l := l) (by simpa [Ev.PV.imm] using z) hd) rx⟩
theorem feeds_str {l : List Nat} : Feeds X Z H1 [⟨v, .str l, tv, pv⟩] (l.map fun c => .str [c]) (Its (toS l)) := fun H' P h _ => by
  refine ⟨fun i hi => ?_, fun i d hd => ?_⟩
  · show (toS l).cps.size ≤ i
    simp only [List.length_map] at hi
    simpa [toS] using hi
  · rw [List.getElem?_map] at hd
    obtain ⟨c, hc, rfl⟩ := Option.map_eq_some_iff.mp hd
    have lt := (List.getElem?_eq_some_iff.mp hc).1
    refine ⟨show i < (toS l).cps.size by simpa [toS] using lt, fun y H'' q => ?_⟩
    obtain ⟨rfl, c', hc', rfl⟩ := q
    have : c' = c := by
      simp [toS, hc] at hc'
      exact hc'.symm
    subst this
    exact ⟨fun _ _ z => z, .str [c'] (by show 1 ≤ sizeLine; decide)⟩
theorem feeds_dct {l : List (PV × PV)} {ep : Nat} {es : List Ent} (hv : v = .ref a) (h1 : H1 a = some (DctO X.w a ep es)) (h2 : RzD X.w X.K Z.al H1 (Z.at pv) es l) : Feeds X Z H1 [⟨v, .dct l, tv, pv⟩] (l.map (·.1)) (ItD X.w a ep es) := fun H' P h _ => by
  obtain ⟨k, c⟩ := h _ List.mem_cons_self
  have k := (k a hv rfl).trans h1
  have hl := h2.length
  refine ⟨fun i hi => ⟨k, by simp only [List.length_map] at hi; omega⟩, fun i d hd => ?_⟩
  obtain ⟨x, hx, rx⟩ := rzd_at h2 hd
  have lt := (List.getElem?_eq_some_iff.mp hx).1
  refine ⟨⟨k, lt⟩, fun y H'' q => ?_⟩
  obtain ⟨rfl, e, q, rfl⟩ := q
  rw [hx] at q
  cases q
  exact ⟨fun _ _ z => z, c _ _ (fun z => by cases z) rx⟩
/-- the numbers of a range -/
theorem feeds_rng {lo c : Int} {n : Nat} {l : List PV} (h : l = (List.range n).map fun (k : Nat) => PV.int (lo + c * (k : Int))) : Feeds X Z H1 [] l (Itc lo c n) := fun H' P _ _ => by
  subst h
  refine ⟨fun i hi => ?_, fun i d hd => ?_⟩
  · show n ≤ i
    simpa using hi
  · rw [List.getElem?_map] at hd
    obtain ⟨k, hk, rfl⟩ := Option.map_eq_some_iff.mp hd
    obtain ⟨lt, e⟩ := List.getElem?_eq_some_iff.mp hk
    simp at e lt
    subst e
    refine ⟨lt, fun y H'' q => ?_⟩
    obtain ⟨rfl, rfl⟩ := q
    rw [Int.mul_comm]
    exact ⟨fun _ _ z => z, .int _⟩
theorem feeds_rng1 {lo : Int} {n : Nat} {l : List PV} (h : l = (List.range n).map fun (k : Nat) => PV.int (lo + 1 * (k : Int))) : Feeds X Z H1 [] l (Itr lo n) := fun H' P a b => by
  obtain ⟨h1, h2⟩ := feeds_rng (X := X) (Z := Z) (H1 := H1) h H' P a b
  refine ⟨h1, fun i d hd => ?_⟩
  obtain ⟨h3, h4⟩ := h2 i d hd
  refine ⟨h3, fun x H'' q => h4 x H'' ?_⟩
  obtain ⟨q1, q2⟩ := q
  exact ⟨q1, by rw [q2]; simp⟩
theorem zipL_at : ∀ {i : Nat} {l m : List PV} {d : PV}, (Ev.zipL l m)[i]? = some d → ∃ x y, l[i]? = some x ∧ m[i]? = some y ∧ d = .tup [x, y]
  | _, [], m, d, e => by simp [Ev.zipL] at e
  | _, x :: l, [], d, e => by simp [Ev.zipL] at e
  | 0, x :: l, y :: m, d, e => by
    cases e
    exact ⟨x, y, rfl, rfl, rfl⟩
  | i + 1, x :: l, y :: m, d, e => zipL_at (i := i) (l := l) (m := m) e
theorem zipL_len : ∀ {l m : List PV} {i : Nat}, (Ev.zipL l m).length ≤ i → l.length ≤ i ∨ m.length ≤ i
  | [], m, _, _ => .inl (Nat.zero_le _)
  | x :: l, [], _, _ => .inr (Nat.zero_le _)
  | x :: l, y :: m, 0, h => by simp [Ev.zipL] at h
  | x :: l, y :: m, i + 1, h => by
    simp only [Ev.zipL, List.length_cons, Nat.add_le_add_iff_right] at h ⊢
    exact zipL_len h
theorem feeds_zip {v u : V} {a b : Addr} {l m : List PV} {xs ys : List V} {tv pv tv2 pv2 : List Nat} (hv : v = .ref a) (hu : u = .ref b) (h1 : H1 a = some (.lst xs)) (h2 : RzL X.w X.K Z.al H1 (Z.at pv) xs l) (h3 : H1 b = some (.lst ys)) (h4 : RzL X.w X.K Z.al H1 (Z.at pv2) ys m) :
    Feeds X Z H1 [⟨v, .lst l, tv, pv⟩, ⟨u, .lst m, tv2, pv2⟩] (Ev.zipL l m) (Itz X.K a b) := fun H' P h _ => by
  obtain ⟨k, c⟩ := h _ List.mem_cons_self
  obtain ⟨k2, c2⟩ := h _ (List.mem_cons_of_mem _ List.mem_cons_self)
  have k := (k a hv rfl).trans h1
  have k2 := (k2 b hu rfl).trans h3
  have hl := h2.length
  have hl2 := h4.length
  refine ⟨fun i hi => ⟨xs, ys, .inl (.inl k), .inl (.inl k2), ?_⟩, fun i d hd => ?_⟩
  · rcases zipL_len hi with z | z
    · exact .inl (by omega)
    · exact .inr (by omega)
  obtain ⟨p, q, hp, hq, rfl⟩ := zipL_at hd
  obtain ⟨x, hx, rx⟩ := rzl_at h2 hp
  obtain ⟨y, hy, ry⟩ := rzl_at h4 hq
  refine ⟨⟨xs, ys, x, y, .inl (.inl k), .inl (.inl k2), hx, hy⟩, fun z H'' q => ?_⟩
  obtain ⟨T, x', y', rfl, hT, rfl, q1, q2⟩ := q
  have := q1 xs (.inl (.inl k))
  rw [hx] at this
  cases this
  have := q2 ys (.inl (.inl k2))
  rw [hy] at this
  cases this
  have sm : Same H' (upd H' T (.tup [x, y])) := fun b o e => by rw [upd_ne (ne_of_none e hT)]; exact e
  exact ⟨sm, .tup (.inl (.inl upd_same)) (.cons ((c _ _ (fun z => by cases z) rx).same sm) (.cons ((c2 _ _ (fun z => by cases z) ry).same sm) .nil))⟩
theorem feeds_zipT {v u : V} {a b : Addr} {l m : List PV} {xs ys : List V} {tv pv tv2 pv2 : List Nat} (h1 : SqT X.K H1 a xs) (h2 : RzL X.w X.K Z.al H1 (Z.at pv) xs l) (h3 : SqT X.K H1 b ys) (h4 : RzL X.w X.K Z.al H1 (Z.at pv2) ys m) :
    Feeds X Z H1 [⟨v, .tup l, tv, pv⟩, ⟨u, .tup m, tv2, pv2⟩] (Ev.zipL l m) (RZ.ItzT X.K a b) := fun H' P h t => by
  obtain ⟨_, c⟩ := h _ List.mem_cons_self
  obtain ⟨_, c2⟩ := h _ (List.mem_cons_of_mem _ List.mem_cons_self)
  have k := t _ _ h1
  have k2 := t _ _ h3
  have hl := h2.length
  have hl2 := h4.length
  refine ⟨fun i hi => ⟨xs, ys, k, k2, ?_⟩, fun i d hd => ?_⟩
  · rcases zipL_len hi with z | z
    · exact .inl (by omega)
    · exact .inr (by omega)
  obtain ⟨p, q, hp, hq, rfl⟩ := zipL_at hd
  obtain ⟨x, hx, rx⟩ := rzl_at h2 hp
  obtain ⟨y, hy, ry⟩ := rzl_at h4 hq
  refine ⟨⟨xs, ys, x, y, k, k2, hx, hy⟩, fun z H'' q => ?_⟩
  obtain ⟨T, x', y', rfl, hT, rfl, q1, q2⟩ := q
  have := q1 xs k
  rw [hx] at this
  cases this
  have := q2 ys k2
  rw [hy] at this
  cases this
  have sm : Same H' (upd H' T (.tup [x, y])) := fun b o e => by rw [upd_ne (ne_of_none e hT)]; exact e
  exact ⟨sm, .tup (.inl (.inl upd_same)) (.cons ((c _ _ (fun z => immL_at (l := l) (by simpa [Ev.PV.imm] using z) hp) rx).same sm) (.cons ((c2 _ _ (fun z => immL_at (l := m) (by simpa [Ev.PV.imm] using z) hq) ry).same sm) .nil))⟩
end
end EvB
end

section
set_option autoImplicit false
set_option Elab.async false
set_option linter.all false
set_option maxRecDepth 100000
set_option maxHeartbeats 1000000
/-! walks over expressions -/
namespace EvB
open PySem PySem.Spec PyProof.Rows L2
open Ev (PV Store Res EnvV CallF CE IT)
def ItVal (cf : CallF) (gl : Nat → Option PV) (env : EnvV) (S : Store) (ps : List Src) (S' : Store) : IT → Prop
  | .val e => ∃ v x, ps = [⟨v, x, e.tv, e.pv⟩] ∧ Ev.evE cf gl env e S = .ok (x, S')
  | .rng _ => ps = []
  | .items _ => False
  | .zip a b => ∃ v x u y S1, ps = [⟨v, x, a.tv, a.pv⟩, ⟨u, y, b.tv, b.pv⟩] ∧ Ev.evE cf gl env a S = .ok (x, S1) ∧ Ev.evE cf gl env b S1 = .ok (y, S')
structure PostI (X : Cx) (cf : CallF) (gl : Nat → Option PV) (Z : Sit) (env : EnvV) (S : Store) (H : Hp) (it : IT) (l : List PV) (S' : Store) (J : It) (H1 : Hp) (ps : List Src) : Prop where
  xt : XtA Z H H1
  st : StOk X.w X.K Z H1 S'
  ok : ∀ p ∈ ps, SrcOk X Z H1 p
  feeds : Feeds X Z H1 ps l J
  val : ItVal cf gl env S ps S' it
def tIt (X : Cx) (cf : CallF) (gl : Nat → Option PV) (it : IT) : TI := fun σ H R => ∃ (Z : Sit) (env : EnvV) (S : Store) (l : List PV) (S' : Store), Ev.evI cf gl env it S = .ok (l, S') ∧ StOk X.w X.K Z H S ∧ EnvOk X Z σ H env ∧
  ∀ J H1 ps, PostI X cf gl Z env S H it l S' J H1 ps → R J H1
theorem _root_.L2.PI.to {X : Cx} {tg e : Expr} {t t' : TI} (h : PI X tg e t) (w : ∀ σ H Q, t' σ H Q → t σ H Q) : PI X tg e t' := ⟨fun pins s σ H Q I q => h.run pins s σ H Q I (w σ H Q q)⟩
section
variable {X : Cx} {cf : CallF} {gl : Nat → Option PV} {tg e : Expr} {ce : CE}
theorem iter_rt {pins : List (Addr × Obj)} {s : Shared} {σ : L2.St} {H : Hp} {R : It → Hp → Prop} {Z : Sit} {v : V} {u : Value} {x : PV} {l : List PV} {tv pv : List Nat} (I : Inv X pins σ H s) (ru : RelV v u) (rt : Rt X.w X.K Z.al H (Z.at pv) v x) (e : Ev.walk x = .ok l)
    (q : ∀ J, Feeds X Z H [⟨v, x, tv, pv⟩] l J → R J H) : wpAny (model X.prog X.w) X.A (pyIter u) (PIE X pins σ tg R) X.xe s := by
  cases x <;> first | (simp [Ev.walk] at e; done) | skip
  · rename_i t
    cases e
    have hv := rt.strE
    subst hv
    obtain ⟨t', rfl⟩ := ru
    have f := q _ feeds_str
    cases ha : (toS t).cps.all (· < 128)
    · exact wpAny_pyIter_wide ha (pi_one (tk := s.toks) I _ (turn_str _ (toS t) t' "str_iterator" (.inr rfl)) ⟨_, Heap.get?_push_size _ rfl, rfl, rfl⟩ f)
    · exact wpAny_pyIter_ascii ha (pi_one (tk := s.toks) I _ (turn_str _ (toS t) t' "str_ascii_iterator" (.inl rfl)) ⟨_, Heap.get?_push_size _ rfl, rfl, rfl⟩ f)
  · cases e
    obtain ⟨a, xs, rfl, h1, h2⟩ := rt.tupE
    cases ru
    obtain ⟨its, rv, p, hz⟩ := I.tuple h1
    exact wpAny_pyIter_tuple (show s.heap.IsTuple a its.toArray from p) (pi_one (tk := s.toks) I _ (turn_tuple a _) ⟨_, Heap.get?_push_size _ rfl, rfl, rfl⟩ (q _ (feeds_tup h1 h2)))
  · cases e
    obtain ⟨a, xs, rfl, h1, h2⟩ := rt.list
    cases ru
    obtain ⟨its, rv, p, hz⟩ := I.list (.inl (.inl h1))
    exact wpAny_pyIter_list p.isList (pi_one (tk := s.toks) I _ (turn_list a _) ⟨_, Heap.get?_push_size _ rfl, rfl, rfl⟩ (q _ (feeds_lst rfl h1 h2)))
  · cases e
    obtain ⟨a, ep, es, rfl, h1, h2⟩ := rt.dict
    cases ru
    obtain ⟨⟨z, hdn, nd, o, es', ho, hx, hdat, pr⟩, _, _⟩ := I.hok a _ h1
    have hsz : es'.size = es.length := by rw [← Array.length_toList, ← Paired.length pr]
    refine iter_keys hdn ho hx hdat (pi_one (tk := s.toks) I _ (turn_D a _ ep es) ⟨_, Heap.get?_push_size _ rfl, rfl, ?_⟩ (q _ (feeds_dct rfl h1 h2)))
    rw [hsz] <;> rfl
theorem ci_val (he : PE X e (tEv X cf gl ce)) : PI X tg e (tIt X cf gl (.val ce)) := by
  refine ⟨fun pins s σ H R I ⟨Z, env, S, l, S', ee, st, eo, q⟩ => ?_⟩
  simp only [Ev.evI] at ee
  obtain ⟨x, S1, e1, ee⟩ := bindP ee
  dsimp only at ee
  obtain ⟨l', e2, ee⟩ := Res.bind_eq_ok ee
  cases ee
  refine thn (he.run pins s σ H (fun v H1 => Post X Z H ce.tv ce.pv ce.fresh x S' v H1) I ⟨Z, env, S, x, S', e1, st, eo, fun v H1 p1 => p1⟩) fun u s1 ⟨v, H1, I1, r1, p1⟩ => ?_
  exact iter_rt (tv := ce.tv) I1 r1 p1.rt e2 fun J f => q J H1 _ ⟨p1.xt, p1.st, fun p m => by
    rw [List.mem_singleton] at m
    subst m
    exact ⟨p1.rz, p1.rt⟩, f, v, x, rfl, e1⟩
section
variable {a b c : Expr} {ca cb cc : CE} {p pos : Pos}
theorem small62_and {i : Int} (h : Ev.small62 i = true) : -(2 ^ 62) < i ∧ i < 2 ^ 62 := of_decide_eq_true h
theorem ci_rng1 (hg : Gl X "range") (hm : X.mg "range" = none) (ha : PA X [a] (tEvL X cf gl [ca])) (hs : starEach [a] X.env = [(false, eval a X.env)]) : PI X tg (.Call (.Name "range" p) [a] [] pos) (tIt X cf gl (.rng [ca])) := by
  refine (pi_range1 (tg := tg) hg hm ha hs).to fun σ H R ⟨Z, env, S, l, S', ee, st, eo, q⟩ => ?_
  simp only [Ev.evI] at ee
  obtain ⟨vs, S1, e1, ee⟩ := bindP ee
  dsimp only at ee
  obtain ⟨l', e2, ee⟩ := Res.bind_eq_ok ee
  cases ee
  obtain ⟨d, S2, e3, e4⟩ : ∃ d S2, Ev.evE cf gl env ca S = .ok (d, S2) ∧ vs = [d] := by
    simp only [Ev.evL] at e1
    obtain ⟨d, S2, e3, e1⟩ := bindP e1
    dsimp only [Res.ok_bind] at e1
    cases e1
    exact ⟨d, _, e3, rfl⟩
  subst e4
  refine ⟨Z, env, S, [d], S', e1, st, eo, fun us H1 p1 => ?_⟩
  cases d <;> first | (simp [Ev.rangeE] at e2; done) | skip
  rename_i n
  obtain ⟨f, e2⟩ := need_bind e2
  cases e2
  simp only [Bool.and_eq_true, decide_eq_true_eq] at f
  have f1 := small62_and f.1
  cases p1.rz with
  | cons r1 t =>
    cases t
    cases r1
    refine ⟨n, rfl, by omega, f1.2, q _ _ [] ⟨p1.xt, p1.st, fun p m => (by cases m), feeds_rng1 ?_, rfl⟩⟩
    show Ev.rangeL 0 n 1 = _
    unfold Ev.rangeL
    rw [if_pos (by decide)]
    simp
theorem evL2 {env : EnvV} {S S' : Store} {vs : List PV} (h : Ev.evL cf gl env [ca, cb] S = .ok (vs, S')) : ∃ x y S1, Ev.evE cf gl env ca S = .ok (x, S1) ∧ Ev.evE cf gl env cb S1 = .ok (y, S') ∧ vs = [x, y] := by
  simp only [Ev.evL] at h
  obtain ⟨x, S1, e1, h⟩ := bindP h
  dsimp only at h
  obtain ⟨w, S2, e2, h⟩ := bindP h
  dsimp only at h
  cases h
  obtain ⟨y, S3, e3, h⟩ := bindP e2
  dsimp only [Res.ok_bind] at h
  cases h
  exact ⟨x, y, S1, e1, e3, rfl⟩
theorem evL3 {env : EnvV} {S S' : Store} {vs : List PV} (h : Ev.evL cf gl env [ca, cb, cc] S = .ok (vs, S')) : ∃ x y z, vs = [x, y, z] := by
  simp only [Ev.evL] at h
  obtain ⟨x, S1, e1, h⟩ := bindP h
  dsimp only at h
  obtain ⟨w, S2, e2, h⟩ := bindP h
  dsimp only at h
  cases h
  obtain ⟨y, S3, e3, h⟩ := bindP e2
  dsimp only at h
  obtain ⟨w, S4, e4, h⟩ := bindP h
  dsimp only at h
  cases h
  obtain ⟨z, S5, e5, h⟩ := bindP e4
  dsimp only [Res.ok_bind] at h
  cases h
  exact ⟨x, y, z, rfl⟩
theorem ci_rng2 (hg : Gl X "range") (hm : X.mg "range" = none) (ha : PA X [a, b] (tEvL X cf gl [ca, cb])) (hs : starEach [a, b] X.env = [(false, eval a X.env), (false, eval b X.env)]) (hs2 : starEach [b] X.env = [(false, eval b X.env)]) : PI X tg (.Call (.Name "range" p) [a, b] [] pos) (tIt X cf gl (.rng [ca, cb])) := by
  refine (pi_range2 (tg := tg) hg hm ha hs hs2).to fun σ H R ⟨Z, env, S, l, S', ee, st, eo, q⟩ => ?_
  simp only [Ev.evI] at ee
  obtain ⟨vs, S1, e1, ee⟩ := bindP ee
  dsimp only at ee
  obtain ⟨l', e2, ee⟩ := Res.bind_eq_ok ee
  cases ee
  obtain ⟨x, y, e4⟩ : ∃ x y, vs = [x, y] := (evL2 e1).imp fun x h => h.imp fun y h => h.elim fun S1 h => h.2.2
  subst e4
  refine ⟨Z, env, S, [x, y], S', e1, st, eo, fun us H1 p1 => ?_⟩
  cases x <;> first | (simp [Ev.rangeE] at e2; done) | skip
  rename_i i
  cases y <;> first | (simp [Ev.rangeE] at e2; done) | skip
  rename_i j
  obtain ⟨f, e2⟩ := need_bind e2
  cases e2
  simp only [Bool.and_eq_true, decide_eq_true_eq] at f
  have f1 := small62_and f.1.1
  have f2 := small62_and f.1.2
  cases p1.rz with
  | cons r1 t =>
    cases t with
    | cons r2 t =>
      cases t
      cases r1
      cases r2
      refine ⟨i, j, rfl, ⟨by omega, f1.2, by omega, f2.2⟩, q _ _ [] ⟨p1.xt, p1.st, fun p m => (by cases m), feeds_rng1 ?_, rfl⟩⟩
      show Ev.rangeL i j 1 = _
      unfold Ev.rangeL
      rw [if_pos (by decide)]
      simp
theorem rng_up {i j c : Int} (h1 : Ev.small62 i = true) (h2 : Ev.small62 j = true) (h3 : j - i ≤ 16777216) (c0 : 0 < c) (c1 : c ≤ 1000) : RgC i j c ((j - i + c - 1) / c).toNat := by
  have f1 := small62_and h1
  have f2 := small62_and h2
  have hr : Builtin.Range.rangeSize i j c = (((j - i + c - 1) / c).toNat : Int) := by
    unfold Builtin.Range.rangeSize
    rw [if_pos c0]
    by_cases h : i < j
    · rw [if_pos h, show j - i + c - 1 = (j - i - 1) + c by omega, Int.add_ediv_of_dvd_right (Int.dvd_refl c), Int.ediv_self (by omega)]
      have := Int.ediv_nonneg (show 0 ≤ j - i - 1 by omega) (show 0 ≤ c by omega)
      omega
    · rw [if_neg h]
      have : (j - i + c - 1) / c ≤ 0 := by
        have : (j - i + c - 1) / c < 1 := Int.ediv_lt_of_lt_mul c0 (by omega)
        omega
      omega
  have hb : (((j - i + c - 1) / c).toNat : Int) ≤ 16777216 := by
    have : (j - i + c - 1) / c < 16777217 := Int.ediv_lt_of_lt_mul c0 (by omega)
    omega
  refine ⟨by omega, by omega, ?_, hr⟩
  unfold Builtin.Range.small
  rw [hr]
  simp only [Builtin.Range.rangeFitsLong, Bool.and_eq_true, Bool.or_eq_true, decide_eq_true_eq, beq_iff_eq]
  rw [if_pos c0]
  simp only [Bool.and_eq_true, decide_eq_true_eq]
  omega
theorem rng_down {i j : Int} (h1 : Ev.small62 i = true) (h2 : Ev.small62 j = true) : RgC i j (-1) (i - j).toNat := RgC.neg (by have := small62_and h1; omega) (by have := small62_and h1; omega) (by have := small62_and h2; omega) (by have := small62_and h2; omega)
theorem rangeE3 {i j k : PV} {l : List PV} (h : Ev.rangeE [i, j, k] = .ok l) : ∃ a b c n, i = .int a ∧ j = .int b ∧ k = .int c ∧ RgC a b c n ∧ l = (List.range n).map fun (m : Nat) => PV.int (a + c * (m : Int)) := by
  cases i <;> first | (simp [Ev.rangeE] at h; done) | skip
  rename_i a
  cases j <;> first | (simp [Ev.rangeE] at h; done) | skip
  rename_i b
  cases k <;> first | (simp [Ev.rangeE] at h; done) | skip
  rename_i c
  obtain ⟨f, h⟩ := need_bind h
  simp only [Bool.and_eq_true, Bool.or_eq_true, decide_eq_true_eq] at f
  obtain ⟨⟨⟨⟨f1, f2⟩, f3⟩, f4⟩, f5⟩ := f
  cases h
  rcases f5 with rfl | ⟨f5, f6⟩
  · refine ⟨a, b, -1, _, rfl, rfl, rfl, rng_down f1 f2, ?_⟩
    unfold Ev.rangeL
    rw [if_neg (by decide)]
    simp
  · refine ⟨a, b, c, _, rfl, rfl, rfl, rng_up f1 f2 f3 f5 f6, ?_⟩
    unfold Ev.rangeL
    rw [if_pos f5]
theorem ci_rng3 (hg : Gl X "range") (hm : X.mg "range" = none) (ha : PA X [a, b, c] (tEvL X cf gl [ca, cb, cc])) (hs : starEach [a, b, c] X.env = (false, eval a X.env) :: starEach [b, c] X.env) (hpl : (backTo pos (starEach [b, c] X.env)).any (·.1) = false) : PI X tg (.Call (.Name "range" p) [a, b, c] [] pos) (tIt X cf gl (.rng [ca, cb, cc])) := by
  refine (pi_range3 (tg := tg) hg hm ha hs hpl).to fun σ H R ⟨Z, env, S, l, S', ee, st, eo, q⟩ => ?_
  simp only [Ev.evI] at ee
  obtain ⟨vs, S1, e1, ee⟩ := bindP ee
  dsimp only at ee
  obtain ⟨l', e2, ee⟩ := Res.bind_eq_ok ee
  cases ee
  obtain ⟨x, y, z, e4⟩ := evL3 e1
  subst e4
  refine ⟨Z, env, S, [x, y, z], S', e1, st, eo, fun us H1 p1 => ?_⟩
  obtain ⟨i, j, k, n, rfl, rfl, rfl, rg, hl⟩ := rangeE3 e2
  cases p1.rz with
  | cons r1 t =>
    cases t with
    | cons r2 t =>
      cases t with
      | cons r3 t =>
        cases t
        cases r1
        cases r2
        cases r3
        exact ⟨i, j, k, n, rfl, rg, q _ _ [] ⟨p1.xt, p1.st, fun p m => (by cases m), feeds_rng hl, rfl⟩⟩
end
end
end EvB
end

section
set_option autoImplicit false
set_option Elab.async false
set_option linter.all false
set_option maxRecDepth 100000
set_option maxHeartbeats 1000000
/-! targets; a comprehension's own sight -/
namespace EvB
open PySem PySem.Spec PyProof.Rows L2
open Ev (PV Store Res EnvV CallF CE IT Tgt Gen)
def gSeq : List Nat → TGs
  | [] => gNil
  | i :: is => gCons (gName i) (gSeq is)
def gT (K : PySem.W.Frag) : Tgt → TG
  | .nm i => gName i
  | .tp is => gTup K is.length (gSeq is)
section
variable {X : Cx} {Z : Sit} {H : Hp}
theorem wipe_set {σ : L2.St} {i : Nat} {v : Option V} : ∀ {vs : List Nat}, i ∈ vs → wipe (σ.set i v) vs = wipe σ vs
  | j :: vs, h => by
    unfold wipe
    by_cases e : i ∈ vs
    · rw [wipe_set e]
    · have e2 : i = j := by
        rcases List.mem_cons.mp h with h | h
        · exact h
        · exact absurd h e
      subst e2
      have : ∀ (vs : List Nat), i ∉ vs → wipe (σ.set i v) vs = (wipe σ vs).set i v := fun vs => by
        induction vs with
        | nil => intro _; rfl
        | cons k vs ih =>
          intro hk
          simp only [List.mem_cons, not_or] at hk
          unfold wipe
          rw [ih hk.2, List.set_comm _ _ hk.1]
      rw [this vs e, List.set_set]
theorem wipe_get {σ : L2.St} {i : Nat} : ∀ {vs : List Nat}, i ∉ vs → (wipe σ vs)[i]? = σ[i]? := fun h => wipe_out h
theorem wipe_wipe {σ : L2.St} : ∀ {us vs : List Nat}, (∀ i ∈ us, i ∈ vs) → wipe (wipe σ us) vs = wipe σ vs
  | [], vs, _ => rfl
  | u :: us, vs, h => by
    show wipe ((wipe σ us).set u none) vs = _
    rw [wipe_set (h u List.mem_cons_self)]
    exact wipe_wipe fun i m => h i (List.mem_cons_of_mem _ m)
theorem EnvOk.set {σ : L2.St} {env : EnvV} {i : Nat} {x : V} {d : PV} (h : EnvOk X Z σ H env) (r1 : Rz X.w X.K Z.al H (Z.at [i]) x d) (r2 : Rt X.w X.K Z.al H (Z.at []) x d) : EnvOk X Z (σ.set i (some x)) H (env.set i (some d)) := by
  refine ⟨by simpa using h.len, fun j e hj => ?_⟩
  by_cases q : i = j
  · subst q
    by_cases lt : i < env.length
    · rw [List.getElem?_set_self lt] at hj
      cases hj
      exact ⟨x, List.getElem?_set_self (by have := h.len; omega), r1, r2⟩
    · rw [List.getElem?_eq_none (by simpa using lt)] at hj
      cases hj
  · rw [List.getElem?_set_ne q] at hj
    obtain ⟨v, h1, h2⟩ := h.get j e hj
    exact ⟨v, by rw [List.getElem?_set_ne q]; exact h1, h2⟩
theorem EnvOk.unset {σ : L2.St} {env : EnvV} {i : Nat} (h : EnvOk X Z σ H env) : EnvOk X Z σ H (env.set i none) := by
  refine ⟨by simpa using h.len, fun j e hj => ?_⟩
  by_cases q : i = j
  · subst q
    by_cases lt : i < env.length
    · rw [List.getElem?_set_self lt] at hj
      cases hj
    · rw [List.getElem?_eq_none (by simpa using lt)] at hj
      cases hj
  · rw [List.getElem?_set_ne q] at hj
    exact h.get j e hj
theorem wipeV_get : ∀ {is : List Nat} {env : EnvV} {j : Nat} {d : PV}, (Ev.wipeV env is)[j]? = some (some d) → env[j]? = some (some d) ∧ j ∉ is
  | [], env, j, d, h => ⟨h, by simp⟩
  | i :: is, env, j, d, h => by
    obtain ⟨h1, h2⟩ := wipeV_get (is := is) (env := env.set i none) (show (Ev.wipeV (env.set i none) is)[j]? = _ from h)
    by_cases q : i = j
    · subst q
      by_cases lt : i < env.length
      · rw [List.getElem?_set_self lt] at h1
        cases h1
      · rw [List.getElem?_eq_none (by simpa using lt)] at h1
        cases h1
    · rw [List.getElem?_set_ne q] at h1
      exact ⟨h1, by simp only [List.mem_cons, not_or]; exact ⟨fun e => q e.symm, h2⟩⟩
theorem wipeV_len : ∀ {is : List Nat} {env : EnvV}, (Ev.wipeV env is).length = env.length
  | [], env => rfl
  | i :: is, env => by
    show (Ev.wipeV (env.set i none) is).length = _
    rw [wipeV_len, List.length_set]
/-- the block forgets at least what the code forgets not -/
theorem EnvOk.wipe {σ : L2.St} {env : EnvV} {is vs : List Nat} (h : EnvOk X Z σ H env) (sub : ∀ i ∈ vs, i ∈ is) : EnvOk X Z (L2.wipe σ vs) H (Ev.wipeV env is) := by
  refine ⟨by rw [wipeV_len, wipe_length]; exact h.len, fun j d hj => ?_⟩
  obtain ⟨h1, h2⟩ := wipeV_get hj
  obtain ⟨v, e1, e2⟩ := h.get j d h1
  exact ⟨v, by rw [wipe_get fun m => h2 (sub j m)]; exact e1, e2⟩
theorem gseq_bind : ∀ {is : List Nat} {l : List PV} {xs : List V} {σ : L2.St} {env env1 : EnvV} {Q : L2.St → Hp → Prop}, EnvOk X Z σ H env → Ev.bindSeq is l env = .ok env1 → RzL X.w X.K Z.al H (Z.at []) xs l →
    (∀ σ', EnvOk X Z σ' H env1 → (∀ vs, (∀ i ∈ is, i ∈ vs) → wipe σ' vs = wipe σ vs) → Q σ' H) → gSeq is xs σ H Q
  | [], [], [], σ, env, env1, Q, eo, e, _, q => by
    cases e
    exact ⟨rfl, q σ eo fun _ _ => rfl⟩
  | i :: is, d :: l, x :: xs, σ, env, env1, Q, eo, e, .cons r rs, q => by
    refine ⟨x, xs, rfl, ?_⟩
    show gSeq is xs (σ.set i (some x)) H Q
    refine gseq_bind (eo.set (rz_sub r fun _ h => (by cases h)) (.of r)) e rs fun σ' eo' hw => q σ' eo' fun vs hv => ?_
    rw [hw vs fun j m => hv j (List.mem_cons_of_mem _ m), wipe_set (hv i List.mem_cons_self)]
  | [], _ :: _, _, σ, env, env1, Q, eo, e, _, q => by cases e
  | _ :: _, [], _, σ, env, env1, Q, eo, e, _, q => by cases e
theorem gt_bind {t : Tgt} {d : PV} {x : V} {σ : L2.St} {env env1 : EnvV} {Q : L2.St → Hp → Prop} (eo : EnvOk X Z σ H env) (e : Ev.bindT t d env = .ok env1) (r : Rz X.w X.K Z.al H (Z.at []) x d)
    (q : ∀ σ', EnvOk X Z σ' H env1 → (∀ vs, (∀ i ∈ t.slots, i ∈ vs) → wipe σ' vs = wipe σ vs) → Q σ' H) : gT X.K t x σ H Q := by
  cases t with
  | nm i =>
    cases e
    exact q _ (eo.set (rz_sub r fun _ h => (by cases h)) (.of r)) fun vs hv => wipe_set (hv i List.mem_cons_self)
  | tp is =>
    cases d <;> first | (simp [Ev.bindT] at e; done) | skip
    rename_i l
    obtain ⟨a, xs, rfl, h1, h2⟩ := r.tupE
    have hl := h2.length
    have hn : ∀ {is : List Nat} {l : List PV} {env : EnvV}, Ev.bindSeq is l env = .ok env1 → is.length = l.length := fun {is} => by
      induction is with
      | nil =>
        intro l env e
        cases l with
        | nil => rfl
        | cons _ _ => cases e
      | cons i is ih =>
        intro l env e
        cases l with
        | nil => cases e
        | cons d l => simp [ih (show Ev.bindSeq is l (env.set i (some d)) = .ok env1 from e)]
    refine ⟨a, xs, rfl, h1, by rw [hl, hn e], gseq_bind eo e h2 q⟩
/-- the slots is hold nothing alone here, and nothing of here is D -/
def Sit.drop (Z : Sit) (is : List Nat) (D : Addr) : Sit := { Z with P := fun a => Z.P a ∧ a ≠ D, O := fun i => if i ∈ is then none else Z.O i }
theorem drop_at {is js : List Nat} {D a : Addr} (h : Z.at (is ++ js) a) (n : a ≠ D) : (Z.drop is D).at js a := by
  refine ⟨⟨h.1, n⟩, h.2.1, fun i e => ?_⟩
  have e : (if i ∈ is then none else Z.O i) = some a := e
  split at e
  · cases e
  · rcases List.mem_append.mp (h.2.2 i e) with z | z
    · exact absurd z (by assumption)
    · exact z
theorem drop_back {is js : List Nat} {D a : Addr} (h : (Z.drop is D).at js a) : Z.at (is ++ js) a := by
  refine ⟨h.1.1, h.2.1, fun i e => ?_⟩
  by_cases m : i ∈ is
  · exact List.mem_append_left _ m
  · exact List.mem_append_right _ (h.2.2 i (show (if i ∈ is then none else Z.O i) = some a by rw [if_neg m]; exact e))
theorem StOk.drop {S : Store} {is : List Nat} {D : Addr} (s : StOk X.w X.K Z H S) (hD : H D ≠ none) (hC : ¬ Z.C D) : StOk X.w X.K (Z.drop is D) H S := by
  refine ⟨s.len, s.nod, fun a e => ⟨s.fr a e, fun z => hD (by rw [← z]; exact e)⟩, s.cel, fun a c => ⟨(s.csub a c).1, drop_at (Sit.sub (s.csub a c).2 fun _ h => (by cases h)) fun z => hC (by rw [← z]; exact c)⟩, fun i a e => ?_⟩
  have e : (if i ∈ is then none else Z.O i) = some a := e
  split at e
  · cases e
  · exact s.own i a e
theorem StOk.undrop {H' : Hp} {S S' : Store} {is : List Nat} {D : Addr} (s0 : StOk X.w X.K Z H S) (al : ∀ a, H a ≠ none → H' a ≠ none) (s : StOk X.w X.K (Z.drop is D) H' S') : StOk X.w X.K Z H' S' :=
  ⟨s.len, s.nod, fun a e => (s.fr a e).1, s.cel, fun a c => ⟨al a (s0.csub a c).1, (s0.csub a c).2⟩, fun i a o => ⟨al a (s0.own i a o).1, (s0.own i a o).2⟩⟩
/-- .. nor but D -/
abbrev XtD (Z : Sit) (D : Addr) (H H' : Hp) : Prop := Ext (fun a => a ∈ Z.al ∨ a = D) H H'
theorem XtD.alive {H' : Hp} {S' : Store} {D : Addr} (x : XtD Z D H H') (s : StOk X.w X.K Z H' S') (hD : H' D ≠ none) : ∀ a, H a ≠ none → H' a ≠ none := fun a h z => by
  rcases Ext.free x z with q | q | q
  · exact h q
  · exact s.alive q z
  · rw [q] at z
    exact hD z
theorem XtD.of {H' : Hp} {D : Addr} (x : XtA Z H H') : XtD Z D H H' := x.mono fun _ h => .inl h
theorem XtD.off {H' : Hp} {D : Addr} (x : XtD Z D H H') (h : H D = none) : XtA Z H H' := fun b o e => by
  rcases x b o e with z | ⟨z | z, m⟩
  · exact .inl z
  · exact .inr ⟨z, m⟩
  · rw [z, h] at e
    cases e
theorem drop_off {is js : List Nat} {D a : Addr} (h : (Z.drop is D).at js a) : ¬ (a ∈ (Z.drop is D).al ∨ a = D) := fun z => z.elim h.2.1 h.1.2
/-- what is not D is the dropped sight's as well -/
theorem rz_drop {H' : Hp} {is : List Nat} {js : List Nat} {D : Addr} {v : V} {d : PV} (hne : ∀ a, H a ≠ none → Z.P a → a ≠ D) (x : XtD Z D H H') (h : Rz X.w X.K Z.al H (Z.at (is ++ js)) v d) : Rz X.w X.K (Z.drop is D).al H' ((Z.drop is D).at js) v d := by
  have g : Rz X.w X.K (Z.drop is D).al H ((Z.drop is D).at js) v d := h.mono fun a o e q => drop_at q (hne a (by rw [e]; exact fun z => nomatch z) q.1)
  exact g.ext (C := fun a => a ∈ Z.al ∨ a = D) x fun a q => drop_off q
theorem EnvOk.drop {σ : L2.St} {env : EnvV} {is : List Nat} {D : Addr} {H' : Hp} (h : EnvOk X Z σ H env) (hne : ∀ a, H a ≠ none → Z.P a → a ≠ D) (x : XtD Z D H H') : EnvOk X (Z.drop is D) σ H' env := by
  refine ⟨h.len, fun i d e => ?_⟩
  obtain ⟨v, h1, h2, h3⟩ := h.get i d e
  have up : ∀ js a o, H a = some o → Z.at js a → (Z.drop is D).at js a := fun js a o e q => drop_at (Sit.sub q fun _ m => List.mem_append_right _ m) (hne a (by rw [e]; exact fun z => nomatch z) q.1)
  have g2 : Rz X.w X.K (Z.drop is D).al H ((Z.drop is D).at [i]) v d := h2.mono (up _)
  have g3 : Rt X.w X.K (Z.drop is D).al H ((Z.drop is D).at []) v d := h3.mono (up _)
  refine ⟨v, h1, g2.ext (C := fun a => a ∈ Z.al ∨ a = D) x fun a q => drop_off q, g3.ext (C := fun a => a ∈ Z.al ∨ a = D) x (fun a q => drop_off q) fun a ea => ?_⟩
  cases m : d.isMut with
  | false => exact .inr rfl
  | true =>
    subst ea
    exact .inl (drop_off (rz_top (Z := Z.drop is D) g2 m))
/-- the walk of a comprehension's for -/
theorem feeds_drop {H' : Hp} {ps : List Src} {l : List PV} {J : It} {is : List Nat} {D : Addr} (f : Feeds X Z H ps l J) (ok : ∀ p ∈ ps, SrcOk X Z H p) (hp : ∀ p ∈ ps, ∀ i ∈ p.pv, i ∈ is) (hne : ∀ a, H a ≠ none → Z.P a → a ≠ D) (x : XtD Z D H H') :
    (∀ i, l.length ≤ i → J.stop i H') ∧ ∀ i d, l[i]? = some d → J.go i H' ∧ ∀ x H'', J.yld i H' x H'' → Same H' H'' ∧ Rz X.w X.K (Z.drop is D).al H'' ((Z.drop is D).at []) x d := by
  refine f H' ((Z.drop is D).at []) (fun p m => ⟨fun a ea mu => ?_, fun u d _ r => ?_⟩) fun b xs q => sqT_ext x q
  · have t := (ok p m).rz
    rw [ea] at t
    have q := rz_top t mu
    cases e : H a with
    | none => exact absurd e (rt_some (by rw [← ea]; exact (ok p m).rt) mu)
    | some o =>
      rcases x a o e with z | ⟨z | z, _⟩
      · exact z
      · exact absurd z q.2.1
      · exact absurd z (hne a (by rw [e]; exact fun z => nomatch z) q.1)
  · exact rz_drop hne x (rz_sub r fun i hi => List.mem_append_left _ (hp p m i hi))
/-- an item put behind the new list's -/
theorem push_ok {is js : List Nat} {D : Addr} {S : Store} {acc : List V} {out : List PV} {y : V} {d : PV} (s : StOk X.w X.K (Z.drop is D) H S) (hD : H D = some (.lst acc)) (hal : D ∉ Z.al) (rs : RzL X.w X.K (Z.drop is D).al H ((Z.drop is D).at js) acc out) (r : Rz X.w X.K (Z.drop is D).al H ((Z.drop is D).at js) y d) :
    let H2 := upd H D (.lst (acc ++ [y]))
    StOk X.w X.K (Z.drop is D) H2 S ∧ XtD Z D H H2 ∧ RzL X.w X.K (Z.drop is D).al H2 ((Z.drop is D).at js) (acc ++ [y]) (out ++ [d]) := by
  intro H2
  have x : Ext (fun a => a = D) H H2 := Ext.put hD trivial rfl
  have al : ∀ a, H a ≠ none → H2 a ≠ none := fun a h z => by
    by_cases q : a = D
    · rw [q, show H2 D = some _ from upd_same] at z
      cases z
    · rw [show H2 a = H a from upd_ne q] at z
      exact h z
  have nC : ∀ a, Z.C a → a ≠ D := fun a c => (s.csub a c).2.1.2
  refine ⟨⟨s.len, s.nod, fun a e => s.fr a ?_, fun n a e => ?_, fun a c => ⟨al a (s.csub a c).1, (s.csub a c).2⟩, fun i a o => ⟨al a (s.own i a o).1, (s.own i a o).2⟩⟩, x.mono fun _ h => .inr h, ?_⟩
  · cases h : H a with
    | none => rfl
    | some o => exact absurd e (al a (by rw [h]; exact fun z => nomatch z))
  · obtain ⟨d, h1, h2, h3⟩ := s.cel n a e
    exact ⟨d, h1, h2, h3.ext x nC fun b eb => .inl fun z => hal (by cases eb; rw [← z]; exact List.mem_of_getElem? e)⟩
  · have o : ∀ a, (Z.drop is D).at js a → ¬ a = D := fun a q => q.1.2
    exact (rs.ext x o).append (.cons (r.ext x o) .nil)
end
end EvB
end

section
set_option autoImplicit false
set_option Elab.async false
set_option linter.all false
set_option maxRecDepth 100000
set_option maxHeartbeats 1000000
/-! comprehensions -/
namespace EvB
open PySem PySem.Spec PyProof.Rows L2
open Ev (PV Store Res EnvV CallF CE IT Tgt Gen)
def tTests (X : Cx) (cf : CallF) (gl : Nat → Option PV) (cs : List CE) : TT := fun σ H Q => ∃ (Z : Sit) (env : EnvV) (S : Store) (b : Bool) (S' : Store), Ev.evT cf gl env cs S = .ok (b, S') ∧ StOk X.w X.K Z H S ∧ EnvOk X Z σ H env ∧
  ∀ H', XtA Z H H' → StOk X.w X.K Z H' S' → Q b H'
theorem _root_.L2.PTs.to {X : Cx} {e : List Expr} {t t' : TT} (h : PTs X e t) (w : ∀ σ H Q, t' σ H Q → t σ H Q) : PTs X e t' := ⟨fun pins s σ H Q I q => h.run pins s σ H Q I (w σ H Q q)⟩
section
variable {X : Cx} {cf : CallF} {gl : Nat → Option PV}
theorem ts_nil : PTs X [] (tTests X cf gl []) := pts_nil.to fun σ H Q ⟨Z, env, S, b, S', e, st, eo, q⟩ => by
  simp only [Ev.evT] at e
  cases e
  exact q H (Ext.refl _ _) st
theorem ts_one {c : Expr} {cc : CE} (h : PT X c (tEvT X cf gl cc)) : PTs X [c] (tTests X cf gl [cc]) := (pts_one h).to fun σ H Q ⟨Z, env, S, b, S', e, st, eo, q⟩ => by
  simp only [Ev.evT] at e
  obtain ⟨x, S1, e1, e⟩ := bindP e
  dsimp only at e
  obtain ⟨t, e2, e⟩ := Res.bind_eq_ok e
  cases t with
  | true =>
    rw [if_pos rfl] at e
    cases e
    exact ⟨Z, env, S, x, S', true, e1, e2, st, eo, q⟩
  | false =>
    rw [if_neg (by decide)] at e
    cases e
    exact ⟨Z, env, S, x, S', false, e1, e2, st, eo, q⟩
theorem itval_pv {env : EnvV} {S S' : Store} {ps : List Src} {it : IT} (h : ItVal cf gl env S ps S' it) : ∀ p ∈ ps, ∀ i ∈ p.pv, i ∈ it.pv := by
  cases it with
  | val e =>
    obtain ⟨v, x, rfl, _⟩ := h
    intro p m i hi
    rw [List.mem_singleton] at m
    subst m
    exact hi
  | rng _ =>
    cases (show ps = [] from h)
    intro p m
    cases m
  | items _ => exact h.elim
  | zip a b =>
    obtain ⟨v, x, u, y, S1, rfl, _⟩ := h
    intro p m i hi
    rcases List.mem_cons.mp m with rfl | m
    · exact List.mem_append_left _ hi
    · rw [List.mem_singleton] at m
      subst m
      exact List.mem_append_right _ hi
theorem eachL_cons {f : PV → Store → Res (List PV × Store)} {x : PV} {xs : List PV} {S S' : Store} {r : List PV} (h : Ev.eachL f (x :: xs) S = .ok (r, S')) : ∃ a S1 r1, f x S = .ok (a, S1) ∧ Ev.eachL f xs S1 = .ok (r1, S') ∧ r = a ++ r1 := by
  simp only [Ev.eachL] at h
  obtain ⟨a, S1, h1, h⟩ := bindP h
  dsimp only at h
  obtain ⟨r1, S2, h2, h⟩ := bindP h
  dsimp only at h
  cases h
  exact ⟨a, S1, r1, h1, h2, rfl⟩
/-- what a comprehension has come to -/
structure Got (X : Cx) (Z : Sit) (is js : List Nat) (D : Addr) (H0 : Hp) (S : Store) (out : List PV) (H : Hp) : Prop where
  xt : XtD Z D H0 H
  st : StOk X.w X.K (Z.drop is D) H S
  put : ∃ acc, H D = some (.lst acc) ∧ RzL X.w X.K (Z.drop is D).al H ((Z.drop is D).at js) acc out
theorem comp1_to {t : Tgt} {it : IT} {cifs : List CE} {ce : CE} {vs : List Nat} (h1 : ∀ i ∈ t.slots, i ∈ vs) (h2 : ∀ i ∈ vs, i ∈ t.slots) {σ : L2.St} {H : Hp} {Q : VK} :
    tEv X cf gl (.comp [.mk t it cifs] ce) σ H Q → tLc (tIt X cf gl it) (gT X.K t) (tTests X cf gl cifs) (tEv X cf gl ce) vs σ H Q := by
  rintro ⟨Z, env, S, r, S', e, st, eo, q⟩
  simp only [Ev.evE] at e
  obtain ⟨l, S9, e, e'⟩ := bindP e
  dsimp only at e'
  obtain ⟨fl, e'⟩ := need_bind e'
  cases e'
  simp only [Ev.evC] at e
  obtain ⟨xs, S1, e1, e⟩ := bindP e
  dsimp only at e
  generalize hf : (fun x S2 => _ : PV → Store → Res (List PV × Store)) = f at e
  refine ⟨Z, env, S, xs, S1, e1, st, eo, fun J H1 ps p D hD => ?_⟩
  have hal : D ∉ Z.al := fun z => p.st.alive z hD
  have hne : ∀ a, H1 a ≠ none → Z.P a → a ≠ D := fun a h _ z => h (by rw [z]; exact hD)
  have hD0 : H D = none := XtA.free p.xt p.st hD
  have hne0 : ∀ a, H a ≠ none → Z.P a → a ≠ D := fun a h _ z => h (by rw [z]; exact hD0)
  have hC : ¬ Z.C D := fun c => (p.st.csub D c).1 hD
  have lim : l.length ≤ sizeLine := by
    have := of_decide_eq_true (show decide (l.length ≤ Ev.line) = true from fl)
    exact Nat.le_trans this (by decide)
  have sm : Same H1 (upd H1 D (.lst [])) := fun b o e => by rw [upd_ne (ne_of_none e hD)]; exact e
  have nD : upd H1 D (.lst []) D ≠ none := by rw [upd_same]; exact fun z => nomatch z
  have g0 : Got X Z it.pv ce.tv D H1 S1 [] (upd H1 D (.lst [])) := ⟨Ext.same sm, (p.st.same sm).drop nD hC, [], upd_same, .nil⟩
  have x01 : ∀ {H' : Hp}, XtD Z D H1 H' → XtD Z D H H' := fun x => (XtD.of p.xt).trans x
  refine ⟨fun i m H' => m = xs.length - i ∧ i ≤ xs.length ∧ ∃ Si out rest, Ev.eachL f (xs.drop i) Si = .ok (rest, S') ∧ out ++ rest = l ∧ Got X Z it.pv ce.tv D H1 Si out H', ⟨xs.length, rfl, Nat.zero_le _, S1, [], l, e, rfl, g0⟩, ?_⟩
  rintro i m H' ⟨rfl, hi, Si, out, rest, e3, el, g⟩
  obtain ⟨f1, f2⟩ := feeds_drop p.feeds p.ok (itval_pv p.val) hne g.xt
  obtain ⟨acc, a1, a2⟩ := g.put
  have aD : H' D ≠ none := by rw [a1]; exact fun z => nomatch z
  by_cases hlt : i < xs.length
  · refine .inr ?_
    have hx : xs[i]? = some xs[i] := List.getElem?_eq_getElem hlt
    obtain ⟨j1, j2⟩ := f2 i _ hx
    rw [List.drop_eq_getElem_cons hlt] at e3
    obtain ⟨a, S2, r1, e4, e5, rfl⟩ := eachL_cons e3
    refine ⟨j1, fun H'' => Got X Z it.pv ce.tv D H1 S2 (out ++ a) H'', fun H'' g2 => ⟨xs.length - (i + 1), by omega, rfl, hlt, S2, out ++ a, r1, e5, by rw [List.append_assoc]; exact el, g2⟩, fun x Hy hy => ?_⟩
    obtain ⟨sy, ry⟩ := j2 x Hy hy
    rw [← hf] at e4
    dsimp only at e4
    obtain ⟨env1, b1, e4⟩ := Res.bind_eq_ok e4
    obtain ⟨b, S3, b2, e4⟩ := bindP e4
    dsimp only at e4
    have xy : XtD Z D H1 Hy := g.xt.trans (Ext.same sy)
    have sty := g.st.same sy
    have eoy : EnvOk X (Z.drop it.pv D) (wipe σ (vs)) Hy (Ev.wipeV env (t.slots ++ Ev.ownOf [])) := (eo.drop hne0 (x01 xy)).wipe fun i m => List.mem_append_left _ (h2 i m)
    refine gt_bind eoy b1 ry fun σ2 eo2 hw => ⟨by rw [hw _ h1]; exact wipe_wipe fun _ m => m, ?_⟩
    refine ⟨Z.drop it.pv D, env1, Si, b, S3, b2, sty, eo2, fun H3 x3 s3 => ?_⟩
    have a3 : H3 D = some (.lst acc) := by
      rcases x3 D _ (sy D _ a1) with z | z
      · exact z
      · exact absurd z.1 hal
    have r3 : RzL X.w X.K (Z.drop it.pv D).al H3 ((Z.drop it.pv D).at ce.tv) acc out := rzl_xt (Z := Z.drop it.pv D) ((Ext.same sy).trans x3) a2
    have xt3 : XtD Z D H1 H3 := xy.trans (x3.mono fun _ h => .inl h)
    cases b with
    | false =>
      rw [if_neg Bool.false_ne_true] at e4
      dsimp only
      rw [if_neg Bool.false_ne_true]
      cases e4
      rw [List.append_nil]
      exact ⟨xt3, s3, acc, a3, r3⟩
    | true =>
      rw [if_pos rfl] at e4
      dsimp only
      rw [if_pos rfl]
      simp only [Ev.evD] at e4
      obtain ⟨v, S4, e6, e4⟩ := bindP e4
      cases e4
      refine ⟨Z.drop it.pv D, env1, S3, v, _, e6, s3, eo2.xt x3, fun y H4 p4 => ?_⟩
      have a4 : H4 D = some (.lst acc) := by
        rcases p4.xt D _ a3 with z | z
        · exact z
        · exact absurd z.1 hal
      have r4 : RzL X.w X.K (Z.drop it.pv D).al H4 ((Z.drop it.pv D).at ce.tv) acc out := rzl_xt (Z := Z.drop it.pv D) p4.xt r3
      have xt4 : XtD Z D H1 H4 := xt3.trans (p4.xt.mono fun _ h => .inl h)
      obtain ⟨w1, w2, w3⟩ := push_ok p4.st a4 hal r4 p4.rz
      refine ⟨acc, a4, ?_, xt4.trans w2, w1, _, upd_same, w3⟩
      have := r4.length
      rw [← el] at lim
      simp only [List.length_append, List.length_cons] at lim
      omega
  · have : i = xs.length := by omega
    subst this
    rw [List.drop_length] at e3
    cases e3
    rw [List.append_nil] at el
    subst el
    refine .inl ⟨f1 _ (Nat.le_refl _), q _ _ ?_⟩
    have xa : XtA Z H1 H' := XtD.off g.xt hD
    refine ⟨p.xt.trans xa, p.st.undrop (XtD.alive (Z := Z.drop it.pv D) (D := D) g.xt g.st aD) g.st, ?_, ?_, ?_⟩
    · exact .lst a1 (Sit.sub (p.st.new [] D hD) fun _ h => (by cases h)) (a2.mono fun _ _ _ q => Sit.sub (drop_back q) fun i h => by simpa [CE.tv, Ev.pvG] using h)
    · exact .of (.lst a1 (Sit.sub (p.st.new [] D hD) fun _ h => (by cases h)) (a2.mono fun _ _ _ q => Sit.sub (drop_back q) fun i h => by simpa [CE.pv, Ev.pvG] using h))
    · intro _ a ea
      cases ea
      exact .inl hD0
theorem ce_comp1 {tg iter elt : Expr} {ifs : List Expr} {scope : Scope} {own : List (Str × Nat)} {pos : Pos} {t : Tgt} {it : IT} {cifs : List CE} {ce : CE}
    (hc : X.calm = true) (hN : X.N.Nodup) (hi : PI X tg iter (tIt X cf gl it)) (ok : BlkOk X.N X.env.scope scope own) (h1 : ∀ i ∈ t.slots, i ∈ own.map (·.2)) (h2 : ∀ i ∈ own.map (·.2), i ∈ t.slots)
    (hg : ∀ (s : Shared) (H : Hp) (C : Addr) (cl : List (Str × Addr)) (fp : List Addr), PG (X.blk s H scope (compEnvC scope cl C X.env) fp) tg (gT X.K t)) (ht : ∀ (s : Shared) (H : Hp) (C : Addr) (cl : List (Str × Addr)) (fp : List Addr), PTs (X.blk s H scope (compEnvC scope cl C X.env) fp) ifs (tTests X cf gl cifs))
    (he : ∀ (s : Shared) (H : Hp) (C : Addr) (cl : List (Str × Addr)) (fp : List Addr), PE (X.blk s H scope (compEnvC scope cl C X.env) fp) elt (tEv X cf gl ce)) (hs : ∀ x, foldedSetIterable iter X.env x = pure x) :
    PE X (.ListComp elt [⟨tg, iter, ifs, 0⟩] scope pos) (tEv X cf gl (.comp [.mk t it cifs] ce)) :=
  (pe_lc hc hN hi ok hg ht he hs).to fun σ H Q => comp1_to h1 h2
theorem PS_to {st : Stmt} {t t' : TS} (h : PS X st t) (w : ∀ D σ H, t' D σ H → t D σ H) : PS X st t' := ⟨fun pins s σ H D I q => h.run pins s σ H D I (w D σ H q)⟩
theorem cs_comp1 {i : Nat} {y : Str} {py spos : Pos} {tg iter elt : Expr} {ifs : List Expr} {scope : Scope} {own : List (Str × Nat)} {pos : Pos} {t : Tgt} {it : IT} {cifs : List CE} {ce : CE}
    (hc : X.calm = true) (hN : X.N.Nodup) (hy : X.N[i]? = some y) (hyl : X.env.scope.names.lookup y = some .local) (hsw : swapsWith (.ListComp elt [⟨tg, iter, ifs, 0⟩] scope pos) (some (.Name y py)) spos.line X.env = pure true)
    (hi : PI X tg iter (tIt X cf gl it)) (ok : BlkOk X.N X.env.scope scope own) (h1 : ∀ i ∈ t.slots, i ∈ own.map (·.2)) (h2 : ∀ i ∈ own.map (·.2), i ∈ t.slots)
    (hg : ∀ (s : Shared) (H : Hp) (C : Addr) (cl : List (Str × Addr)) (fp : List Addr), PG (X.blk s H scope (compEnvC scope cl C X.env) fp) tg (gT X.K t)) (ht : ∀ (s : Shared) (H : Hp) (C : Addr) (cl : List (Str × Addr)) (fp : List Addr), PTs (X.blk s H scope (compEnvC scope cl C X.env) fp) ifs (tTests X cf gl cifs))
    (he : ∀ (s : Shared) (H : Hp) (C : Addr) (cl : List (Str × Addr)) (fp : List Addr), PE (X.blk s H scope (compEnvC scope cl C X.env) fp) elt (tEv X cf gl ce)) (hs : ∀ x, foldedSetIterable iter X.env x = pure x) :
    PS X (.Assign [.Name y py] (.ListComp elt [⟨tg, iter, ifs, 0⟩] scope pos) spos) (tAsg (tEv X cf gl (.comp [.mk t it cifs] ce)) (gName i)) :=
  PS_to (ps_setLc hc hN hy hyl hsw hi ok hg ht he hs) fun D σ H h => comp1_to h1 h2 h

end
end EvB
end

section
set_option autoImplicit false
set_option Elab.async false
set_option linter.all false
set_option maxRecDepth 100000
set_option maxHeartbeats 1000000
/-! comprehensions of two fors -/
namespace EvB
open PySem PySem.Spec PyProof.Rows L2
open Ev (PV Store Res EnvV CallF CE IT Tgt Gen)
section
variable {X : Cx} {cf : CallF} {gl : Nat → Option PV}
theorem comp2_to {t t1 : Tgt} {it it1 : IT} {cifs cifs1 : List CE} {ce : CE} {vs : List Nat} (h1 : ∀ i ∈ t.slots ++ t1.slots, i ∈ vs) (h2 : ∀ i ∈ vs, i ∈ t.slots ++ t1.slots) {σ : L2.St} {H : Hp} {Q : VK} :
    tEv X cf gl (.comp [.mk t it cifs, .mk t1 it1 cifs1] ce) σ H Q → tLc2 (tIt X cf gl it) (gT X.K t) (tTests X cf gl cifs) (tIt X cf gl it1) (gT X.K t1) (tTests X cf gl cifs1) (tEv X cf gl ce) vs t1.slots σ H Q := by
  rintro ⟨Z, env, S, r, S', e, st, eo, q⟩
  simp only [Ev.evE] at e
  obtain ⟨l, S9, e, e'⟩ := bindP e
  dsimp only at e'
  obtain ⟨fl, e'⟩ := need_bind e'
  cases e'
  simp only [Ev.evC] at e
  obtain ⟨xs, S1, e1, e⟩ := bindP e
  dsimp only at e
  generalize hf : (fun x S2 => _ : PV → Store → Res (List PV × Store)) = f at e
  refine ⟨Z, env, S, xs, S1, e1, st, eo, fun J H1 ps p D hD => ?_⟩
  have hal : D ∉ Z.al := fun z => p.st.alive z hD
  have hne : ∀ a, H1 a ≠ none → Z.P a → a ≠ D := fun a h _ z => h (by rw [z]; exact hD)
  have hD0 : H D = none := XtA.free p.xt p.st hD
  have hne0 : ∀ a, H a ≠ none → Z.P a → a ≠ D := fun a h _ z => h (by rw [z]; exact hD0)
  have hC : ¬ Z.C D := fun c => (p.st.csub D c).1 hD
  have lim : l.length ≤ sizeLine := by
    have := of_decide_eq_true (show decide (l.length ≤ Ev.line) = true from fl)
    exact Nat.le_trans this (by decide)
  have sm : Same H1 (upd H1 D (.lst [])) := fun b o e => by rw [upd_ne (ne_of_none e hD)]; exact e
  have nD : upd H1 D (.lst []) D ≠ none := by rw [upd_same]; exact fun z => nomatch z
  have g0 : Got X Z it.pv (it1.pv ++ ce.tv) D H1 S1 [] (upd H1 D (.lst [])) := ⟨Ext.same sm, (p.st.same sm).drop nD hC, [], upd_same, .nil⟩
  have x01 : ∀ {H' : Hp}, XtD Z D H1 H' → XtD Z D H H' := fun x => (XtD.of p.xt).trans x
  have own1 : Ev.ownOf [Gen.mk t1 it1 cifs1] = t1.slots := by simp [Ev.ownOf, Gen.slots]
  refine ⟨fun i m H' => m = xs.length - i ∧ i ≤ xs.length ∧ ∃ Si out rest, Ev.eachL f (xs.drop i) Si = .ok (rest, S') ∧ out ++ rest = l ∧ Got X Z it.pv (it1.pv ++ ce.tv) D H1 Si out H', ⟨xs.length, rfl, Nat.zero_le _, S1, [], l, e, rfl, g0⟩, ?_⟩
  rintro i m H' ⟨rfl, hi, Si, out, rest, e3, el, g⟩
  obtain ⟨f1, f2⟩ := feeds_drop p.feeds p.ok (itval_pv p.val) hne g.xt
  obtain ⟨acc, a1, a2⟩ := g.put
  have aD : H' D ≠ none := by rw [a1]; exact fun z => nomatch z
  by_cases hlt : i < xs.length
  · refine .inr ?_
    have hx : xs[i]? = some xs[i] := List.getElem?_eq_getElem hlt
    obtain ⟨j1, j2⟩ := f2 i _ hx
    rw [List.drop_eq_getElem_cons hlt] at e3
    obtain ⟨a, S2, r1, e4, e5, rfl⟩ := eachL_cons e3
    refine ⟨j1, fun H'' => Got X Z it.pv (it1.pv ++ ce.tv) D H1 S2 (out ++ a) H'', fun H'' g2 => ⟨xs.length - (i + 1), by omega, rfl, hlt, S2, out ++ a, r1, e5, by rw [List.append_assoc]; exact el, g2⟩, fun x Hy hy => ?_⟩
    obtain ⟨sy, ry⟩ := j2 x Hy hy
    rw [← hf] at e4
    dsimp only at e4
    obtain ⟨env1, b1, e4⟩ := Res.bind_eq_ok e4
    obtain ⟨b, S3, b2, e4⟩ := bindP e4
    dsimp only at e4
    have xy : XtD Z D H1 Hy := g.xt.trans (Ext.same sy)
    have sty := g.st.same sy
    have eoy : EnvOk X (Z.drop it.pv D) (wipe σ (vs)) Hy (Ev.wipeV env (t.slots ++ Ev.ownOf [Gen.mk t1 it1 cifs1])) := (eo.drop hne0 (x01 xy)).wipe fun i m => by rw [own1]; exact h2 i m
    refine gt_bind eoy b1 ry fun σ2 eo2 hw => ⟨by rw [hw _ fun i m => h1 i (List.mem_append_left _ m)]; exact wipe_wipe fun _ m => m, ?_⟩
    refine ⟨Z.drop it.pv D, env1, Si, b, S3, b2, sty, eo2, fun H3 x3 s3 => ?_⟩
    have a3 : H3 D = some (.lst acc) := by
      rcases x3 D _ (sy D _ a1) with z | z
      · exact z
      · exact absurd z.1 hal
    have r3 : RzL X.w X.K (Z.drop it.pv D).al H3 ((Z.drop it.pv D).at (it1.pv ++ ce.tv)) acc out := rzl_xt (Z := Z.drop it.pv D) ((Ext.same sy).trans x3) a2
    have xt3 : XtD Z D H1 H3 := xy.trans (x3.mono fun _ h => .inl h)
    cases b with
    | false =>
      rw [if_neg Bool.false_ne_true] at e4
      dsimp only
      rw [if_neg Bool.false_ne_true]
      cases e4
      rw [List.append_nil]
      exact ⟨xt3, s3, acc, a3, r3⟩
    | true =>
      rw [if_pos rfl] at e4
      dsimp only
      rw [if_pos rfl]
      simp only [Ev.evD] at e4
      obtain ⟨xs1, S4, e6, e4⟩ := bindP e4
      dsimp only at e4
      generalize hf1 : (fun x S2 => _ : PV → Store → Res (List PV × Store)) = fi at e4
      refine ⟨Z.drop it.pv D, env1, S3, xs1, S4, e6, s3, eo2.xt x3, fun J1 H4 ps1 p1 => ?_⟩
      have a4 : H4 D = some (.lst acc) := by
        rcases p1.xt D _ a3 with z | z
        · exact z
        · exact absurd z.1 hal
      have d4 : H4 D ≠ none := by rw [a4]; exact fun z => nomatch z
      have r4 : RzL X.w X.K (Z.drop it.pv D).al H4 ((Z.drop it.pv D).at (it1.pv ++ ce.tv)) acc out := rzl_xt (Z := Z.drop it.pv D) p1.xt r3
      have xt4 : XtD Z D H1 H4 := xt3.trans (p1.xt.mono fun _ h => .inl h)
      have hne1 : ∀ a, H4 a ≠ none → (Z.drop it.pv D).P a → a ≠ D := fun a _ q => q.2
      have eo4 := (eo2.xt x3).xt p1.xt
      have g1 : Got X (Z.drop it.pv D) it1.pv ce.tv D H4 S4 out H4 := ⟨Ext.refl _ _, p1.st.drop d4 hC, acc, a4, r4.mono fun a o e (q : (Z.drop it.pv D).at (it1.pv ++ ce.tv) a) => drop_at q q.1.2⟩
      refine ⟨fun j k H => k = xs1.length - j ∧ j ≤ xs1.length ∧ ∃ Sj out1 rest1, Ev.eachL fi (xs1.drop j) Sj = .ok (rest1, S2) ∧ out1 ++ rest1 = out ++ a ∧ Got X (Z.drop it.pv D) it1.pv ce.tv D H4 Sj out1 H, ⟨xs1.length, rfl, Nat.zero_le _, S4, out, a, e4, rfl, g1⟩, ?_⟩
      rintro j k H5 ⟨rfl, hj, Sj, out1, rest1, e7, el1, g5⟩
      obtain ⟨f3, f4⟩ := feeds_drop p1.feeds p1.ok (itval_pv p1.val) hne1 g5.xt
      obtain ⟨acc5, a5, r5⟩ := g5.put
      have d5 : H5 D ≠ none := by rw [a5]; exact fun z => nomatch z
      by_cases hlj : j < xs1.length
      · refine .inr ?_
        have hx1 : xs1[j]? = some xs1[j] := List.getElem?_eq_getElem hlj
        obtain ⟨j3, j4⟩ := f4 j _ hx1
        rw [List.drop_eq_getElem_cons hlj] at e7
        obtain ⟨a', S6, r6, e8, e9, rfl⟩ := eachL_cons e7
        refine ⟨j3, fun H'' => Got X (Z.drop it.pv D) it1.pv ce.tv D H4 S6 (out1 ++ a') H'', fun H'' g2 => ⟨xs1.length - (j + 1), by omega, rfl, hlj, S6, out1 ++ a', r6, e9, by rw [List.append_assoc]; exact el1, g2⟩, fun x' Hz hz => ?_⟩
        obtain ⟨sz, rz⟩ := j4 x' Hz hz
        rw [← hf1] at e8
        dsimp only at e8
        obtain ⟨env2, b3, e8⟩ := Res.bind_eq_ok e8
        obtain ⟨b', S7, b4, e8⟩ := bindP e8
        dsimp only at e8
        have xz : XtD (Z.drop it.pv D) D H4 Hz := g5.xt.trans (Ext.same sz)
        have stz := g5.st.same sz
        have eoz : EnvOk X ((Z.drop it.pv D).drop it1.pv D) (wipe σ2 t1.slots) Hz (Ev.wipeV env1 t1.slots) := (eo4.drop hne1 xz).wipe fun i m => m
        refine gt_bind eoz b3 rz fun σ3 eo3 hw1 => ⟨by rw [hw1 _ fun i m => m]; exact wipe_wipe fun _ m => m, ?_⟩
        refine ⟨(Z.drop it.pv D).drop it1.pv D, env2, Sj, b', S7, b4, stz, eo3, fun H6 x6 s6 => ?_⟩
        have a6 : H6 D = some (.lst acc5) := by
          rcases x6 D _ (sz D _ a5) with z | z
          · exact z
          · exact absurd z.1 hal
        have r6' : RzL X.w X.K ((Z.drop it.pv D).drop it1.pv D).al H6 (((Z.drop it.pv D).drop it1.pv D).at ce.tv) acc5 out1 := rzl_xt (Z := (Z.drop it.pv D).drop it1.pv D) ((Ext.same sz).trans x6) r5
        have xt6 : XtD (Z.drop it.pv D) D H4 H6 := xz.trans (x6.mono fun _ h => .inl h)
        cases b' with
        | false =>
          rw [if_neg Bool.false_ne_true] at e8
          dsimp only
          rw [if_neg Bool.false_ne_true]
          cases e8
          rw [List.append_nil]
          exact ⟨xt6, s6, acc5, a6, r6'⟩
        | true =>
          rw [if_pos rfl] at e8
          dsimp only
          rw [if_pos rfl]
          obtain ⟨v, S8, e10, e8⟩ := bindP e8
          cases e8
          refine ⟨(Z.drop it.pv D).drop it1.pv D, env2, S7, v, _, e10, s6, eo3.xt x6, fun y H7 p7 => ?_⟩
          have a7 : H7 D = some (.lst acc5) := by
            rcases p7.xt D _ a6 with z | z
            · exact z
            · exact absurd z.1 hal
          have r7 : RzL X.w X.K ((Z.drop it.pv D).drop it1.pv D).al H7 (((Z.drop it.pv D).drop it1.pv D).at ce.tv) acc5 out1 := rzl_xt (Z := (Z.drop it.pv D).drop it1.pv D) p7.xt r6'
          have xt7 : XtD (Z.drop it.pv D) D H4 H7 := xt6.trans (p7.xt.mono fun _ h => .inl h)
          obtain ⟨w1, w2, w3⟩ := push_ok p7.st a7 hal r7 p7.rz
          refine ⟨acc5, a7, ?_, xt7.trans w2, w1, _, upd_same, w3⟩
          have q1 := r7.length
          have q2 := congrArg List.length el1
          rw [← el] at lim
          simp only [List.length_append, List.length_cons] at lim q2
          omega
      · have : j = xs1.length := by omega
        subst this
        rw [List.drop_length] at e7
        cases e7
        rw [List.append_nil] at el1
        subst el1
        refine .inl ⟨f3 _ (Nat.le_refl _), xt4.trans g5.xt, p1.st.undrop (XtD.alive (Z := (Z.drop it.pv D).drop it1.pv D) (D := D) g5.xt g5.st d5) g5.st, acc5, a5, r5.mono fun _ _ _ q => drop_back q⟩
  · have : i = xs.length := by omega
    subst this
    rw [List.drop_length] at e3
    cases e3
    rw [List.append_nil] at el
    subst el
    refine .inl ⟨f1 _ (Nat.le_refl _), q _ _ ?_⟩
    have xa : XtA Z H1 H' := XtD.off g.xt hD
    refine ⟨p.xt.trans xa, p.st.undrop (XtD.alive (Z := Z.drop it.pv D) (D := D) g.xt g.st aD) g.st, ?_, ?_, ?_⟩
    · exact .lst a1 (Sit.sub (p.st.new [] D hD) fun _ h => (by cases h)) (a2.mono fun _ _ _ q => Sit.sub (drop_back q) fun i h => by simpa [CE.tv, Ev.pvG] using h)
    · exact .of (.lst a1 (Sit.sub (p.st.new [] D hD) fun _ h => (by cases h)) (a2.mono fun _ _ _ q => Sit.sub (drop_back q) fun i h => by simpa [CE.pv, Ev.pvG] using h))
    · intro _ a ea
      cases ea
      exact .inl hD0
theorem ce_comp2 {tg iter tg1 iter1 elt : Expr} {ifs ifs1 : List Expr} {scope : Scope} {own : List (Str × Nat)} {pos : Pos} {t t1 : Tgt} {it it1 : IT} {cifs cifs1 : List CE} {ce : CE}
    (hc : X.calm = true) (hN : X.N.Nodup) (hi : PI X tg iter (tIt X cf gl it)) (ok : BlkOk X.N X.env.scope scope own) (h1 : ∀ i ∈ t.slots ++ t1.slots, i ∈ own.map (·.2)) (h2 : ∀ i ∈ own.map (·.2), i ∈ t.slots ++ t1.slots)
    (hg : ∀ (s : Shared) (H : Hp) (C : Addr) (cl : List (Str × Addr)) (fp : List Addr), PG (X.blk s H scope (compEnvC scope cl C X.env) fp) tg (gT X.K t)) (ht : ∀ (s : Shared) (H : Hp) (C : Addr) (cl : List (Str × Addr)) (fp : List Addr), PTs (X.blk s H scope (compEnvC scope cl C X.env) fp) ifs (tTests X cf gl cifs))
    (hi1 : ∀ (s : Shared) (H : Hp) (C : Addr) (cl : List (Str × Addr)) (fp : List Addr), PI (X.blk s H scope (compEnvC scope cl C X.env) fp) tg1 iter1 (tIt X cf gl it1))
    (hg1 : ∀ (s : Shared) (H : Hp) (C : Addr) (cl : List (Str × Addr)) (fp : List Addr), PG (X.blk s H scope (compEnvC scope cl C X.env) fp) tg1 (gT X.K t1)) (ht1 : ∀ (s : Shared) (H : Hp) (C : Addr) (cl : List (Str × Addr)) (fp : List Addr), PTs (X.blk s H scope (compEnvC scope cl C X.env) fp) ifs1 (tTests X cf gl cifs1))
    (he : ∀ (s : Shared) (H : Hp) (C : Addr) (cl : List (Str × Addr)) (fp : List Addr), PE (X.blk s H scope (compEnvC scope cl C X.env) fp) elt (tEv X cf gl ce)) (hs : ∀ x, foldedSetIterable iter X.env x = pure x) (hs1 : ∀ env x, foldedSetIterable iter1 env x = pure x) :
    PE X (.ListComp elt [⟨tg, iter, ifs, 0⟩, ⟨tg1, iter1, ifs1, 0⟩] scope pos) (tEv X cf gl (.comp [.mk t it cifs, .mk t1 it1 cifs1] ce)) :=
  (pe_lc2 (vs1 := t1.slots) hc hN hi ok (fun i m => h1 i (List.mem_append_right _ m)) hg ht hi1 hg1 ht1 he hs hs1).to fun σ H Q => comp2_to h1 h2
theorem cs_comp2 {i : Nat} {y : Str} {py spos : Pos} {tg iter tg1 iter1 elt : Expr} {ifs ifs1 : List Expr} {scope : Scope} {own : List (Str × Nat)} {pos : Pos} {t t1 : Tgt} {it it1 : IT} {cifs cifs1 : List CE} {ce : CE}
    (hc : X.calm = true) (hN : X.N.Nodup) (hy : X.N[i]? = some y) (hyl : X.env.scope.names.lookup y = some .local) (hsw : swapsWith (.ListComp elt [⟨tg, iter, ifs, 0⟩, ⟨tg1, iter1, ifs1, 0⟩] scope pos) (some (.Name y py)) spos.line X.env = pure true) (hi : PI X tg iter (tIt X cf gl it)) (ok : BlkOk X.N X.env.scope scope own) (h1 : ∀ i ∈ t.slots ++ t1.slots, i ∈ own.map (·.2)) (h2 : ∀ i ∈ own.map (·.2), i ∈ t.slots ++ t1.slots)
    (hg : ∀ (s : Shared) (H : Hp) (C : Addr) (cl : List (Str × Addr)) (fp : List Addr), PG (X.blk s H scope (compEnvC scope cl C X.env) fp) tg (gT X.K t)) (ht : ∀ (s : Shared) (H : Hp) (C : Addr) (cl : List (Str × Addr)) (fp : List Addr), PTs (X.blk s H scope (compEnvC scope cl C X.env) fp) ifs (tTests X cf gl cifs))
    (hi1 : ∀ (s : Shared) (H : Hp) (C : Addr) (cl : List (Str × Addr)) (fp : List Addr), PI (X.blk s H scope (compEnvC scope cl C X.env) fp) tg1 iter1 (tIt X cf gl it1))
    (hg1 : ∀ (s : Shared) (H : Hp) (C : Addr) (cl : List (Str × Addr)) (fp : List Addr), PG (X.blk s H scope (compEnvC scope cl C X.env) fp) tg1 (gT X.K t1)) (ht1 : ∀ (s : Shared) (H : Hp) (C : Addr) (cl : List (Str × Addr)) (fp : List Addr), PTs (X.blk s H scope (compEnvC scope cl C X.env) fp) ifs1 (tTests X cf gl cifs1))
    (he : ∀ (s : Shared) (H : Hp) (C : Addr) (cl : List (Str × Addr)) (fp : List Addr), PE (X.blk s H scope (compEnvC scope cl C X.env) fp) elt (tEv X cf gl ce)) (hs : ∀ x, foldedSetIterable iter X.env x = pure x) (hs1 : ∀ env x, foldedSetIterable iter1 env x = pure x) :
    PS X (.Assign [.Name y py] (.ListComp elt [⟨tg, iter, ifs, 0⟩, ⟨tg1, iter1, ifs1, 0⟩] scope pos) spos) (tAsg (tEv X cf gl (.comp [.mk t it cifs, .mk t1 it1 cifs1] ce)) (gName i)) :=
  PS_to (ps_setLc2 (vs1 := t1.slots) hc hN hy hyl hsw hi ok (fun i m => h1 i (List.mem_append_right _ m)) hg ht hi1 hg1 ht1 he hs hs1) fun D σ H h => comp2_to h1 h2 h

end
end EvB
end

section
set_option autoImplicit false
set_option Elab.async false
set_option linter.all false
set_option maxRecDepth 100000
set_option maxHeartbeats 1000000
/-! sorted(d.items()) -/
namespace EvB
open PySem PySem.Spec PyProof.Rows L2
open Ev (PV Store Res EnvV CallF CE IT Tgt Gen)
section
variable {X : Cx} {al : List Addr} {P : Addr → Prop}
theorem mt_itemsD : MtR X "dict.items" (fun x xs H Q => ∃ a ep es ds, x = .ref a ∧ xs = [] ∧ H a = some (DctO X.w a ep es) ∧ RzD X.w X.K al H P es ds ∧ ∀ p, H p = none → Q (.ref p) (upd H p (L2.DX.itemsO p a))) := by
  intro pins s σ H x xs v us Q I rx rxs h
  obtain ⟨a, ep, es, ds, rfl, rfl, h1, h2, q⟩ := h
  cases rx
  cases rxs
  obtain ⟨_, hd, rs, ⟨⟨o, es', ho, hx, hdat, _⟩, _⟩, _⟩ := dct_raw I h1 h2
  refine DT.callItems (es := es') (ep := ep) hd ⟨o, ho, hx, hdat⟩ ?_
  have hf : H s.heap.objs.size = none := I.hok.fresh (Nat.le_refl _)
  exact ⟨.ref s.heap.objs.size, upd H s.heap.objs.size (L2.DX.itemsO s.heap.objs.size a), I.laid (t' := s.toks) (fun b u e => Heap.get?_push_of_some _ e) (Nat.le_refl _) (L2.DX.itemsO_ok (Heap.get?_push_size _ rfl)), rfl, q _ hf⟩
def pairsV (ds : List (PV × PV)) : List PV := ds.map fun kv => .tup [kv.1, kv.2]
theorem rzl_pairs {w : World} {K : PySem.W.Frag} {H H2 : Hp} : ∀ {es : List Ent} {ds : List (PV × PV)} {as : List Addr}, RzD w K al H P es ds → Same H H2 → as.length = es.length → (∀ (j : Nat) (a : Addr) (e : Ent), as[j]? = some a → es[j]? = some e → H2 a = some (.tup [e.2.1, e.2.2])) → RzL w K al H2 P (as.map V.ref) (pairsV ds)
  | [], [], [], .nil, _, _, _ => .nil
  | e :: es, (k, v) :: ds, a :: as, .cons h1 h2 h3 h4 h5 t, sm, hl, q =>
    .cons (.tup (.inl (.inl (q 0 a e rfl rfl))) (.cons (h4.same sm) (.cons (h5.same sm) .nil))) (rzl_pairs t sm (by simpa using hl) fun j b f hb hf => q (j + 1) b f hb hf)
  | [], _ :: _, _, h, _, _, _ => nomatch h
  | _ :: _, [], _, h, _, _, _ => nomatch h
  | [], [], _ :: _, _, _, h, _ => by simp at h
  | _ :: _, _ :: _, [], _, _, h, _ => by simp at h
theorem items_col {pins : List (Addr × Obj)} {σ : L2.St} {H : Hp} {s : Shared} {r a : Addr} {ep : Nat} {es : List Ent} {ds : List (PV × PV)} (I : Inv X pins σ H s) (hc : X.calm = true) (h0 : H r = some (L2.DX.itemsO r a)) (h1 : H a = some (DctO X.w a ep es)) (h2 : RzD X.w X.K al H P es ds) :
    wpAny (model X.prog X.w) X.A.in1 (collect (.ref r)) (fun us s1 => ∃ H1 vs l', Inv X pins σ H1 s1 ∧ Vals vs us ∧ RzL X.w X.K al H1 P vs l' ∧ l'.Perm (pairsV ds) ∧ Same H H1 ∧ (∀ b o, s.heap.get? b = some o → s1.heap.get? b = some o)) (fun _ _ => False) s := by
  have view : s.heap.IsItemsView r a := (show ObjOk X.prog X.w H s.heap r (L2.DX.itemsO r a) from I.hok r _ h0).1
  obtain ⟨⟨z, hd, nd, o, es', ho, hx, hdat, pr⟩, _, _⟩ := I.hok a _ h1
  have hsz : es'.size = es.length := by rw [← Array.length_toList, ← Paired.length pr]
  refine PySem.W.dil_collect (es := es') (ep := ep) (I.ok.hd hc) view ⟨o, ho, hx, hdat⟩ (by rw [hsz]; exact z) fun h' tk as hk hl hG => ?_
  have I1 : Inv X pins σ H { s with heap := h', toks := tk } := I.kept hk
  have nda : as.Nodup := List.Pairwise.imp (fun h => Nat.ne_of_lt h) hG.rise
  obtain ⟨H2, I2, g, q⟩ := L2.DX.takeT (P := fun b vs => ∀ (j : Nat) (e : Ent), as[j]? = some b → es[j]? = some e → vs = [e.2.1, e.2.2]) I as H I1 nda fun b hb => by
    obtain ⟨j, hj⟩ := List.getElem?_of_mem hb
    obtain ⟨hlt, hg⟩ := hG.pairs j b hj
    have hlt2 : j < es.length := by omega
    obtain ⟨en, hen, _, r1, r2⟩ := paired_get pr (List.getElem?_eq_getElem hlt2)
    rw [Array.getElem?_toList, Array.getElem?_eq_getElem hlt] at hen
    cases hen
    refine ⟨Nat.le_of_lt (hG.above b hb), I.hok.fresh (Nat.le_of_lt (hG.above b hb)), [es[j].2.1, es[j].2.2], fun j' e hj' he => ?_, fun H2 => ⟨by show 2 ≤ sizeLine; decide, [es'[j].key, es'[j].val], .cons r1 (.cons r2 .nil), ⟨_, hg, rfl, 0, rfl⟩⟩⟩
    have : j' = j := by
      exact (List.getElem?_inj (List.getElem?_eq_some_iff.mp hj').1 nda).mp (hj'.trans hj.symm)
    subst this
    rw [List.getElem?_eq_getElem hlt2] at he
    cases he
    rfl
  have sm : Same H H2 := fun b o e => g b o e
  refine ⟨H2, as.map V.ref, pairsV ds, I2, ?_, rzl_pairs h2 sm (by omega) fun j b e hb he => ?_, List.Perm.refl _, sm, hk⟩
  · clear q hl hG nda
    induction as with
    | nil => exact .nil
    | cons x xs ih => exact .cons rfl ih
  · obtain ⟨vs, hv, h3⟩ := q b (List.mem_of_getElem? hb)
    rw [h3, hv j e hb he]
/-- sorted(d.items()) -/
theorem b_items (hc : X.calm = true) (hu : X.A.units + 128 < cLine) : CallR X (.builtin "sorted") (fun xs H Q => ∃ p a ep es ds r, xs = [.ref p] ∧ H p = some (L2.DX.itemsO p a) ∧ H a = some (DctO X.w a ep es) ∧ RzD X.w X.K al H P es ds ∧ Ev.sortedE (pairsV ds) = .ok r ∧ (∀ p, H p = none → P p) ∧ Yes X.w X.K al H P true r Q) := by
  intro pins s σ H xs us Q I rr h
  obtain ⟨p, a, ep, es, ds, r, rfl, h0, h1, h2, e, fr, q⟩ := h
  obtain ⟨u, rfl, rx⟩ := vals1 rr
  cases rx
  exact sorted_rule I hu e fr q (items_col I hc h0 h1 h2)
def tItems (X : Cx) (al : List Addr) (P : Addr → Prop) (to : TE) : TE := fun σ H Q => to σ H fun x H1 => ∃ a ep es ds, x = .ref a ∧ H1 a = some (DctO X.w a ep es) ∧ RzD X.w X.K al H1 P es ds ∧ ∀ p, H1 p = none → Q (.ref p) (upd H1 p (L2.DX.itemsO p a))
theorem pe_items {o : Expr} {to : TE} {apos cpos : Pos} (ho : PE X o to) (h0 : notCall0 o = true) (hline : (apos.endLine == cpos.line) = true) : PE X (.Call (.Attribute o "items" apos) [] [] cpos) (tItems X al P to) := by
  refine ⟨fun pins s σ H Q I h => ?_⟩
  refine wpAny_Call_method0_late (baseOk h0) hline (thn (ho.run pins s σ H _ I h) fun v s1 ⟨x, H1, I1, r1, a, ep, es, ds, e, h1, h2, q⟩ => ?_)
  subst e
  cases r1
  obtain ⟨_, hd, rs, ⟨⟨ob, es', hob, hx, hdat, _⟩, _⟩, _⟩ := dct_raw I1 h1 h2
  exact ⟨"dict", "dict.items", F.plainAttrs_dict, F.slot_dict_items, F.type_dict_items, ⟨ob, hob, hx.1⟩, fun b z => (by cases z; exact ⟨ob, hob, hx.2.1⟩), Calls.callWith_builtin rfl (PySem.evalArgs_none (mt_itemsD (al := al) (P := P) pins s1 σ H1 (.ref a) [] (.ref a) [] Q I1 rfl .nil ⟨a, ep, es, ds, rfl, rfl, h1, h2, q⟩))⟩
theorem ce_items {cf : CallF} {gl : Nat → Option PV} {o : Expr} {co : CE} {p pos apos cpos : Pos} (hc : X.calm = true) (hu : X.A.units + 128 < cLine) (hg : Gl X "sorted") (hm : X.mg "sorted" = none) (ho : PE X o (tEv X cf gl co)) (h0 : notCall0 o = true) (hline : (apos.endLine == cpos.line) = true) :
    PE X (.Call (.Name "sorted" p) [.Call (.Attribute o "items" apos) [] [] cpos] [] pos) (tEv X cf gl (.bit .sorted (.items co))) := by
  refine ⟨fun pins s σ H Q I ⟨Z, env, S, r, S', ee, st, eo, q⟩ => ?_⟩
  simp only [Ev.evE, Ev.evI] at ee
  obtain ⟨l, S1, h1, ee⟩ := bindP ee
  dsimp only at ee
  obtain ⟨r', h2, ee⟩ := Res.bind_eq_ok ee
  cases ee
  obtain ⟨x, S2, h3, h1⟩ := bindP h1
  dsimp only at h1
  cases x <;> first | (cases h1; done) | skip
  rename_i ds
  cases h1
  refine (pe_callB (b_items (al := Z.al) (P := Z.at co.pv) hc hu) hg hm rfl (pa_one (pe_items (al := Z.al) (P := Z.at co.pv) ho h0 hline) rfl) (by decide) (by decide) (starEach_cons rfl) (bplain rfl)).run pins s σ H Q I ⟨Z, env, S, _, S', h3, st, eo, fun v H1 p1 => ?_⟩
  obtain ⟨a, ep, es, rfl, d1, d2⟩ := p1.rt.dict
  refine ⟨a, ep, es, ds, rfl, d1, d2, fun b hb => ?_⟩
  · have sm : Same H1 (upd H1 b (L2.DX.itemsO b a)) := same_new hb
    exact ⟨b, a, ep, es, ds, r, rfl, upd_same, sm _ _ d1, d2.same sm, h2, (p1.st.same sm).new _, Yes.post (b := true) (p1.xt.trans (Ext.same sm)) (p1.st.same sm) (fun z => z) (fun i h => h) fun w H' p' => q w H' (p'.sub (fun i h => h) (fun i h => h) fun z => z)⟩
end
end EvB
end

section
set_option autoImplicit false
set_option Elab.async false
set_option linter.all false
set_option maxRecDepth 100000
set_option maxHeartbeats 1000000
/-! displays of dicts -/
namespace EvB
open PySem PySem.Spec PyProof.Rows L2
open Ev (PV Store Res EnvV CallF CE IT Tgt Gen)
section
variable {X : Cx} {pos : Pos}
def tDnewD (w : World) : TE := fun _ H Q => ∀ p ep, H p = none → Q (.ref p) (upd H p (DctO w p ep (entM [])))
theorem pe_dnewD : PE X (.Dict [] [] pos) (tDnewD X.w) := ⟨fun pins s σ H Q I h => by
  refine wpAny_Dict_empty ?_
  have ok : ObjOk X.prog X.w (upd H s.heap.objs.size (.dK [])) (s.heap.push { cls := .type "dict", data := .dict #[] }) s.heap.objs.size (.dK []) := dk_empty s.heap I.big
  obtain ⟨z, hd, vs, kv, dd⟩ := ok
  obtain ⟨ep, ok'⟩ := dctO_of (X := X) (H' := upd H s.heap.objs.size (DctO X.w s.heap.objs.size 0 [])) z hd kv dd
  exact ⟨.ref s.heap.objs.size, _, I.laid (a := s.heap.objs.size) (o := DctO X.w s.heap.objs.size ep (entM [])) (t' := s.toks) (fun _ _ q => Heap.get?_push_of_some _ q) (Nat.le_refl _) ok', rfl, h _ ep (I.hok.fresh (Nat.le_refl _))⟩⟩
def tDispD (w : World) (trs : List (TE × TE)) : TE := fun σ H Q => ∀ p, H p = none → tPairs trs σ (upd H p (.dK [])) fun ps H2 => H2 p = some (.dK []) ∧ ∃ kvs : List (L2.Key × V), ps = kvs.map (fun kv => (kV kv.1, kv.2)) ∧ kvs.length ≤ 15 ∧ ∀ ep, Q (.ref p) (upd H2 p (DctO w p ep (entM (mergeK [] kvs))))
theorem pe_dispD {keys : List (Option Expr)} {values : List Expr} {trs : List (TE × TE)} (h : PPs X pos keys values trs) (hall : keys.all (·.isSome) = true) (hl : keys.length = values.length) (h0 : keys ≠ [])
    (h15 : keys.length ≤ 15) : PE X (.Dict keys values pos) (tDispD X.w trs) := by
  refine ⟨fun pins s σ H Q I q => ?_⟩
  have hn := I.hok.fresh (Nat.le_refl s.heap.objs.size)
  have I1 := I.laid (a := s.heap.objs.size) (o := .dK []) (h' := s.heap.push { cls := .type "dict", data := .dict #[] }) (t' := s.toks) (fun _ _ q => Heap.get?_push_of_some _ q) (Nat.le_refl _) (dk_empty s.heap I.big)
  refine wpAny_Dict_walk (knd := mixKind X.prog X.w) hall hl h0 h15 (thn (h.run pins _ σ _ _ I1 (q _ hn)) fun ws s2 ⟨ps, H2, I2, rel, e, kvs, ep, lk, q2⟩ => ?_)
  subst ep
  obtain ⟨rs, c, rk⟩ := carries_of (P := X.prog) (w := X.w) rel
  obtain ⟨z, hd, vs0, r0, dd⟩ := dk_of I2.hok e
  cases r0
  refine ⟨rs, c, dd, fun h' dd' hs => ?_⟩
  have hz : (mergeK [] kvs).length ≤ sizeLine := by
    have h1 := length_mergeK kvs []
    rw [List.length_nil] at h1
    rw [sizeLine_eq]; omega
  obtain ⟨ep', ok'⟩ := dctO_of (X := X) (H' := upd H2 s.heap.objs.size (DctO X.w s.heap.objs.size 0 [])) hz hd (rk.merge .nil) dd'
  have he : ∃ q, h'.get? s.heap.objs.size = some q := let ⟨q, _, _, hq, _⟩ := dd'; ⟨q, hq⟩
  exact ⟨.ref s.heap.objs.size, _, I2.write (x := s.heap.objs.size) (e := s.heap.objs.size) (by rw [e]; exact True.intro) (.inl rfl) (fun b q hb k => (hs.2 b hb).trans k) he (show ObjOk _ _ _ _ _ (DctO X.w _ ep' (entM (mergeK [] kvs))) from ok'), rfl, q2 ep'⟩
end
section
variable {X : Cx} {cf : CallF} {gl : Nat → Option PV}
inductive PPL (X : Cx) (cf : CallF) (gl : Nat → Option PV) : List (Option Expr) → List Expr → List CE → Prop where
  | nil : PPL X cf gl [] [] []
  | cons {k v : Expr} {ks : List (Option Expr)} {vs : List Expr} {ck cv : CE} {cs : List CE} : PE X k (tEv X cf gl ck) → PE X v (tEv X cf gl cv) → PPL X cf gl ks vs cs → PPL X cf gl (some k :: ks) (v :: vs) (ck :: cv :: cs)
def trsOf (X : Cx) (cf : CallF) (gl : Nat → Option PV) : List CE → List (TE × TE)
  | k :: v :: r => (tEv X cf gl k, tEv X cf gl v) :: trsOf X cf gl r
  | _ => []
theorem PPL.pps {pos : Pos} : ∀ {ks : List (Option Expr)} {vs : List Expr} {cs : List CE}, PPL X cf gl ks vs cs → PPs X pos ks vs (trsOf X cf gl cs)
  | _, _, _, .nil => pps_nil
  | _, _, _, .cons h1 h2 t => pps_cons h1 h2 t.pps
theorem PPL.all : ∀ {ks : List (Option Expr)} {vs : List Expr} {cs : List CE}, PPL X cf gl ks vs cs → ks.all (·.isSome) = true ∧ ks.length = vs.length
  | _, _, _, .nil => ⟨rfl, rfl⟩
  | _, _, _, .cons h1 h2 t => ⟨by rw [List.all_cons, t.all.1]; rfl, by simp [t.all.2]⟩
theorem isMix_key {k : PV} (h : k.isMix = true) : ∃ c, mixKey k = some c := by
  cases k <;> first | (cases h; done) | exact ⟨_, rfl⟩
theorem tpairs_ok {Z : Sit} {σ : L2.St} {env : EnvV} : ∀ {ks : List (Option Expr)} {vs : List Expr} {cs : List CE} {H : Hp} {S S' : Store} {ps : List (PV × PV)} {Q : List (V × V) → Hp → Prop}, PPL X cf gl ks vs cs → Ev.evP cf gl env cs S = .ok (ps, S') → StOk X.w X.K Z H S → EnvOk X Z σ H env →
    (∀ (kvs : List (L2.Key × V)) H', XtA Z H H' → StOk X.w X.K Z H' S' → RzD X.w X.K Z.al H' (Z.at (Ev.tvL cs)) (entM kvs) ps → mixAll ps → Q (kvs.map fun kv => (kV kv.1, kv.2)) H') → tPairs (trsOf X cf gl cs) σ H Q
  | _, _, _, H, S, S', ps, Q, .nil, e, st, eo, q => by
    simp only [Ev.evP] at e
    cases e
    exact q [] H (Ext.refl _ _) st .nil fun _ h => absurd h List.not_mem_nil
  | _, _, _, H, S, S', ps, Q, .cons (ck := ck) (cv := cv) (cs := cs) h1 h2 t, e, st, eo, q => by
    simp only [Ev.evP] at e
    obtain ⟨x, S1, e1, e⟩ := bindP e
    dsimp only at e
    obtain ⟨y, S2, e2, e⟩ := bindP e
    dsimp only at e
    obtain ⟨mx, e⟩ := need_bind e
    obtain ⟨r, S3, e3, e⟩ := bindP e
    dsimp only at e
    cases e
    refine ⟨Z, env, S, x, S1, e1, st, eo, fun v H1 p1 => ⟨Z, env, S1, y, S2, e2, p1.st, eo.xt p1.xt, fun u H2 p2 => ?_⟩⟩
    refine tpairs_ok t e3 p2.st ((eo.xt p1.xt).xt p2.xt) fun kvs H3 x3 s3 rz mm => ?_
    obtain ⟨c, hc⟩ := isMix_key mx
    have rx := rz_xt x3 (rz_xt p2.xt p1.rz)
    have ev := mixKey_rz hc rx
    subst ev
    refine q ((c, u) :: kvs) H3 ((p1.xt.trans p2.xt).trans x3) s3 ?_ fun kv h => ?_
    · refine .cons (mixKey_toK hc).symm (mixKey_key hc).1 (mixKey_key hc).2 (rz_sub rx fun i hi => ?_) (rz_sub (rz_xt x3 p2.rz) fun i hi => ?_) (rz.mono fun _ _ _ z => Sit.sub z fun i hi => ?_)
      · simp only [Ev.tvL, List.mem_append]
        exact .inl hi
      · simp only [Ev.tvL, List.mem_append]
        exact .inr (.inl hi)
      · simp only [Ev.tvL, List.mem_append]
        exact .inr (.inr hi)
    · rcases List.mem_cons.mp h with rfl | h
      · exact ⟨c, hc⟩
      · exact mm kv h
theorem ce_dic0 {pos : Pos} : PE X (.Dict [] [] pos) (tEv X cf gl (.dic [])) := pe_dnewD.to fun σ H Q ⟨Z, env, S, r, S', e, st, eo, q⟩ => by
  simp only [Ev.evE, Ev.evP] at e
  cases e
  intro p ep hp
  have sm : Same H (upd H p (DctO X.w p ep (entM []))) := same_new hp
  refine q _ _ ⟨Ext.same sm, st.same sm, .dct upd_same (st.new _ _ hp) .nil, .of (.dct upd_same (st.new _ _ hp) .nil), fun _ a ea => ?_⟩
  cases ea
  exact .inl hp
theorem st_write {Z : Sit} {H : Hp} {S : Store} {is : List Nat} {D : Addr} {o o' : HO} (s : StOk X.w X.K (Z.drop is D) H S) (hD : H D = some o) (mu : Mut (some o)) (hal : D ∉ Z.al) : StOk X.w X.K (Z.drop is D) (upd H D o') S := by
  have x : Ext (fun a => a = D) H (upd H D o') := Ext.put hD mu rfl
  have al : ∀ a, H a ≠ none → upd H D o' a ≠ none := fun a h z => by
    by_cases q : a = D
    · rw [q, show upd H D o' D = some _ from upd_same] at z
      cases z
    · rw [show upd H D o' a = H a from upd_ne q] at z
      exact h z
  refine ⟨s.len, s.nod, fun a e => s.fr a ?_, fun n a e => ?_, fun a c => ⟨al a (s.csub a c).1, (s.csub a c).2⟩, fun i a o => ⟨al a (s.own i a o).1, (s.own i a o).2⟩⟩
  · cases h : H a with
    | none => rfl
    | some o => exact absurd e (al a (by rw [h]; exact fun z => nomatch z))
  · obtain ⟨d, h1, h2, h3⟩ := s.cel n a e
    exact ⟨d, h1, h2, h3.ext x (fun a c => (s.csub a c).2.1.2) fun b eb => .inl fun z => hal (by cases eb; rw [← z]; exact List.mem_of_getElem? e)⟩
theorem ce_dic {ks : List (Option Expr)} {vs : List Expr} {cs : List CE} {pos : Pos} (h : PPL X cf gl ks vs cs) (h0 : ks ≠ []) (h15 : ks.length ≤ 15) : PE X (.Dict ks vs pos) (tEv X cf gl (.dic cs)) := by
  refine (pe_dispD h.pps h.all.1 h.all.2 h0 h15).to fun σ H Q ⟨Z, env, S, r, S', e, st, eo, q⟩ => ?_
  simp only [Ev.evE] at e
  obtain ⟨ps, S1, e1, e⟩ := bindP e
  dsimp only at e
  obtain ⟨f, e⟩ := need_bind e
  cases e
  have f := of_decide_eq_true f
  intro D hD
  have sm : Same H (upd H D (.dK [])) := same_new hD
  have hal : D ∉ Z.al := fun z => st.alive z hD
  have hne : ∀ a, H a ≠ none → Z.P a → a ≠ D := fun a h _ z => h (by rw [z]; exact hD)
  have hC : ¬ Z.C D := fun c => (st.csub D c).1 hD
  have nD : upd H D (.dK []) D ≠ none := by rw [upd_same]; exact fun z => nomatch z
  refine tpairs_ok (Z := Z.drop [] D) h e1 ((st.same sm).drop nD hC) (eo.drop hne (XtD.of (Ext.same sm))) fun kvs H2 x2 s2 rz mm => ?_
  have a2 : H2 D = some (.dK []) := by
    rcases x2 D _ upd_same with z | z
    · exact z
    · exact absurd z.1 hal
  refine ⟨a2, kvs, rfl, ?_, fun ep => ?_⟩
  · have := rz.length
    simp [entM] at this
    omega
  have mu : Mut (some (HO.dK [])) := True.intro
  have s3 := st_write (o' := DctO X.w D ep (entM (mergeK [] kvs))) s2 a2 mu hal
  have x3 : XtD Z D H (upd H2 D (DctO X.w D ep (entM (mergeK [] kvs)))) := ((XtD.of (Z := Z) (D := D) (Ext.same sm)).trans (x2.mono fun _ h => .inl h)).trans ((Ext.put (C := fun a => a = D) a2 mu rfl).mono fun _ h => .inr h)
  have n3 : upd H2 D (DctO X.w D ep (entM (mergeK [] kvs))) D ≠ none := by rw [upd_same]; exact fun z => nomatch z
  have r3 : RzD X.w X.K Z.al (upd H2 D (DctO X.w D ep (entM (mergeK [] kvs)))) ((Z.drop [] D).at (Ev.tvL cs)) (entM (mergeK [] kvs)) (Ev.dUpd [] ps) :=
    (rzd_mergeK rz mm (kvs := []) (ds := []) .nil).ext (Ext.put (C := fun a => a = D) a2 mu rfl) fun a q => q.1.2
  have r4 : RzD X.w X.K Z.al (upd H2 D (DctO X.w D ep (entM (mergeK [] kvs)))) (Z.at (Ev.tvL cs)) (entM (mergeK [] kvs)) (Ev.dUpd [] ps) := r3.mono fun _ _ _ z => by simpa using drop_back z
  refine q _ _ ⟨XtD.off x3 hD, st.undrop (XtD.alive (Z := Z.drop [] D) (D := D) x3 s3 n3) s3, .dct upd_same (st.new _ _ hD) r4, .of (.dct upd_same (st.new _ _ hD) r4), fun _ a ea => ?_⟩
  cases ea
  exact .inl hD
end
end EvB
end

section
set_option autoImplicit false
set_option Elab.async false
set_option linter.all false
set_option maxRecDepth 100000
set_option maxHeartbeats 1000000
/-! set(xs), whatever is said of the set that grows -/
namespace EvB
open PySem PySem.Spec PyProof.Rows L2
open Ev (PV Store Res)
section
variable {P : Program} {w : World} {A : Around} {E : Value → Shared → Prop} {s : Shared}
/-- what is said of the set at S after i items: it stays while S and the old objects stay; an item brings it on -/
structure Grows (P : Program) (w : World) (A : Around) (h0 : Heap) (S : Addr) (items : List Value) (J : Nat → Heap → Prop) : Prop where
  keep : ∀ i (h h' : Heap), J i h → (∀ o, h.get? S = some o → h'.get? S = some o) → (∀ b o, h0.get? b = some o → h.get? b = some o → h'.get? b = some o) → J i h'
  step : ∀ i v (s : Shared) (Q : Bool → Shared → Prop) (E : Value → Shared → Prop), items[i]? = some v → J i s.heap → (∀ b (h' : Heap) tk, Heap.SameBut S s.heap h' → s.toks ≤ tk → J (i + 1) h' → Q b { s with heap := h', toks := tk }) → wpAny (model P w) A (setAdd S v) Q E s
theorem upd_loop {I : Addr} {fp wr : List Addr} {G : Array GenState → Array GenState → Prop} {n : Nat} {Pv : Nat → Value → Prop} {St : Nat → Shared → Prop} {R : Result → Shared → Prop} {items : List Value} {J : Nat → Heap → Prop} {h0 : Heap} {S : Addr}
    (W : WalksS P w A.in1 I fp wr G n Pv St) (hSf : S ∉ fp) (hw : ∀ b ∈ wr, h0.get? b = none) (hval : ∀ i v, Pv i v → items[i]? = some v) (g : Grows P w A.in1 h0 S items J) :
    ∀ (k i : Nat) (s : Shared), n - i = k → i ≤ n → St i s → J i s.heap →
      (∀ s', Moved (S :: wr) G s s' → J n s'.heap → R (.ok (.ret .none)) s') → codeAny (model P w) A (.builtin "set.update.loop" ⟨[.ref S, .ref I], []⟩) R s
  | 0, i, s, hk, hi, hst, hJ, hR => by
    have e : i = n := by omega
    subst e
    refine codeAny_builtin F.entry_set_update_loop ?_
    rw [Around.under_plainId F.plain_set_update_loop _]
    refine wpAny_bind (m := pyNext (.ref I)) (W.done s _ _ hst fun s1 m => ?_)
    refine wpAny_pure (hR s1 (m.mono fun b hb => List.mem_cons_of_mem _ hb) (g.keep _ _ _ hJ (fun o e => m.heap S o (fun z => hSf (W.sub _ z)) e) fun b o e0 e => m.heap b o (fun z => by rw [hw b z] at e0; cases e0) e))
  | k + 1, i, s, hk, hi, hst, hJ, hR => by
    have lt : i < n := by omega
    refine codeAny_builtin F.entry_set_update_loop ?_
    rw [Around.under_plainId F.plain_set_update_loop _]
    refine wpAny_bind (m := pyNext (.ref I)) (W.item i s _ _ lt hst fun v s1 hP hst1 m => ?_)
    have hJ1 : J i s1.heap := g.keep _ _ _ hJ (fun o e => m.heap S o (fun z => hSf (W.sub _ z)) e) fun b o e0 e => m.heap b o (fun z => by rw [hw b z] at e0; cases e0) e
    refine wpAny_bind (m := holding [v] (setAdd S v)) (wpAny_holding (g.step i v s1 _ _ (hval i v hP) hJ1 fun b h2 tk sb ht hJ2 => ?_))
    refine wpAny_pure ⟨plainId_quiet F.plain_set_update_loop _, upd_loop W hSf hw hval g k (i + 1) _ (by omega) lt (W.frame _ s1 _ _ hst1 ht fun c hc o e => ?_) hJ2 fun s3 m3 hJ3 => ?_⟩
    · rw [sb.2 c (fun z : c = S => hSf (z ▸ hc))]
      exact e
    · refine hR s3 (Moved.trans W.gtrans ((m.mono fun b hb => List.mem_cons_of_mem _ hb).then_heap ht fun c o hc e => ?_) m3) hJ3
      rw [sb.2 c (fun z : c = S => hc (z ▸ List.mem_cons_self))]
      exact e
/-- the new set -/
abbrev freshSet (w : World) : Obj := { cls := .type "set", dict := none, data := .set #[] 0 (.fresh 0 0 (!w.params.followText "set-order")) }
theorem none_above {h : Heap} {b : Addr} (hb : h.objs.size ≤ b) : h.get? b = none := by
  cases q : h.get? b with
  | none => rfl
  | some o => exact absurd (Nat.lt_of_lt_of_le (Heap.lt_size q) hb) (Nat.lt_irrefl _)
set_option maxHeartbeats 3200000 in
/-- set(xs), whatever walks xs -/
theorem call_set_any {l : Addr} {T : String} {ob : Obj} {items : Array Value} {J : Nat → Heap → Prop} {Q : Value → Shared → Prop} (hol : s.heap.get? l = some ob) (hcl : ob.cls = .type T)
    (hsls : isSubtype (.type T) (.type "set") = pure false) (hslf : isSubtype (.type T) (.type "frozenset") = pure false) (hne : (Value.type T == Value.type "dict") = false)
    (it : ∀ (A' : Around) (Q' : Value → Shared → Prop) (E' : Value → Shared → Prop), A'.handled = A.handled → A'.units ≤ A.units + 8 → (∀ I s2, Q' (.ref I) s2 ∨ ¬ (∃ fp St, s2.gens = s.gens ∧ s2.os = s.os ∧ s2.drawn = s.drawn ∧ s.heap.objs.size < I ∧ (∀ b o, (s.heap.push (freshSet w)).get? b = some o → s2.heap.get? b = some o) ∧
      (∀ b ∈ fp, b ≠ s.heap.objs.size) ∧ (∀ A2 : Around, A2.handled = A.handled → Walks P w A2 I fp [I] items.size (fun i v => items[i]? = some v) St) ∧ St 0 s2.heap)) → wpAny (model P w) A' (pyIter (.ref l)) Q' E' { s with heap := s.heap.push (freshSet w) })
    (g : ∀ A' : Around, A'.handled = A.handled → A'.units ≤ A.units + 8 → Grows P w A' s.heap s.heap.objs.size items.toList J) (j0 : ∀ h' : Heap, (∀ b o, s.heap.get? b = some o → h'.get? b = some o) → h'.get? s.heap.objs.size = some (freshSet w) → J 0 h')
    (h : ∀ (h' : Heap) (tk : Nat), J items.size h' → (∀ b o, s.heap.get? b = some o → h'.get? b = some o) → Q (.ref s.heap.objs.size) { s with heap := h', toks := tk }) :
    wpAny (model P w) A (call (.type "set") [.ref l]) Q E s := by
  obtain ⟨c, tl, hmro⟩ := F.called_set.mro
  have hmade := F.called_set.made
  have hsub := F.called_set.sub
  refine wpAny_call (codeAny_of_tree ?_)
  refine wpAny_pure ⟨Code.quiet_builtin _ (by decide +kernel), codeAny_builtin F.entry_type_call ?_⟩
  rw [Around.under_plain (weight_type_call_type "set" [.ref l] []) rfl]
  have h1 := F.called_set.notType
  have h2 := F.called_set.canCreate
  have hct := F.typeCall_set_1 (.ref l)
  repeat (any_goals (first | assumption | wp_step))
  refine codeAny_mono (code_set_led1 (.ref l) (E := E) (Q₁ := fun obj s₁ => obj = .ref s.heap.objs.size ∧ s₁ = { s with heap := s.heap.push (freshSet w) }) ⟨rfl, rfl⟩) fun r s₁ hr => ?_
  match r, hr with
  | .error e, hr => exact hr
  | .ok (.ret obj), hr =>
    obtain ⟨rfl, rfl⟩ := hr
    have hS : (s.heap.push (freshSet w)).get? s.heap.objs.size = some (freshSet w) := Heap.get?_push_size _ rfl
    have hT : Shared.TypeIs { s with heap := s.heap.push (freshSet w) } (.ref s.heap.objs.size) "set" := ⟨_, hS, rfl⟩
    have hli := F.called_set.init.lookup
    have hbi := F.called_set.init.bind (.ref s.heap.objs.size)
    repeat (any_goals (first | assumption | wp_step))
    refine codeAny_mono (codeAny_call_builtin (R := wants (fun r s₂ => r = .none ∧ ∃ (h' : Heap) (tk : Nat), s₂ = { s with heap := h', toks := tk } ∧ J items.size h' ∧ (∀ b o, s.heap.get? b = some o → h'.get? b = some o)) E) F.called_set.init.plain F.entry_set_init (check_set_init_1 hT ?_)) fun r₂ s₂ hr₂ => ?_
    · have hol' : (s.heap.push (freshSet w)).get? l = some ob := Heap.get?_push_of_some _ hol
      obtain ⟨ocls, odict, odata, oslots⟩ := ob
      simp only at hcl
      subst hcl
      unfold Builtin.«set.__init__» noKeywords Builtin.Frozenset.updateFrom
      generalize hPI : pyIter = PI
      wp_walk
      subst hPI
      refine it _ _ _ rfl (by simp only [Around.in1]; omega) fun I s2 => ?_
      by_cases hh : ∃ fp St, s2.gens = s.gens ∧ s2.os = s.os ∧ s2.drawn = s.drawn ∧ s.heap.objs.size < I ∧ (∀ b o, (s.heap.push (freshSet w)).get? b = some o → s2.heap.get? b = some o) ∧
          (∀ b ∈ fp, b ≠ s.heap.objs.size) ∧ (∀ A2 : Around, A2.handled = A.handled → Walks P w A2 I fp [I] items.size (fun i v => items[i]? = some v) St) ∧ St 0 s2.heap
      · refine .inl ?_
        obtain ⟨fp, St, g2, o2, d2, hI, kp, hfp, hW, st⟩ := hh
        refine wpAny_bind (wpAny_runValue ?_)
        have kp0 : ∀ b o, s.heap.get? b = some o → s2.heap.get? b = some o := fun b o e => kp b o (Heap.get?_push_of_some _ e)
        refine upd_loop (St := fun i (s3 : Shared) => St i s3.heap) (A := A.in1.in1) (W := (hW A.in1.in1.in1 rfl).toS) (fun z => hfp _ z rfl) (fun b hb => none_above (by rw [List.mem_singleton.mp hb]; exact Nat.le_of_lt hI)) (fun i v hv => by rw [Array.getElem?_toList]; exact hv) (g A.in1.in1.in1 rfl (by simp only [Around.in1]; omega)) items.size 0 _ (Nat.sub_zero _) (Nat.zero_le _) st (j0 _ kp0 (kp _ _ hS)) ?_
        intro s' hm hJ
        obtain ⟨h', g', d', tk', os'⟩ := s'
        cases (show g' = s.gens from Eq.trans hm.gens g2)
        cases (show d' = s.drawn from hm.drawn.trans d2)
        cases (show os' = s.os from hm.os.trans o2)
        refine wpAny_pure (wpAny_pure ⟨rfl, h', tk', rfl, hJ, fun b o e => hm.heap b o (fun z => ?_) (kp0 b o e)⟩)
        have lb : b < s.heap.objs.size := Heap.lt_size e
        rcases List.mem_cons.mp z with z | z
        · exact absurd z (Nat.ne_of_lt lb)
        · exact absurd lb (Nat.not_lt_of_le (by rw [List.mem_singleton.mp z]; exact Nat.le_of_lt hI))
      · exact .inr hh
    · match r₂, hr₂ with
      | .error e, hr₂ => exact hr₂
      | .ok (.ret r), hr₂ =>
        obtain ⟨rfl, h', tk, rfl, hJ, hk'⟩ := hr₂
        repeat (any_goals (first | assumption | wp_step))
        exact h _ _ hJ hk'
      | .ok .next, hr₂ => exact hr₂.elim
      | .ok .brk, hr₂ => exact hr₂.elim
      | .ok .cont, hr₂ => exact hr₂.elim
  | .ok .next, hr => exact hr.elim
  | .ok .brk, hr => exact hr.elim
  | .ok .cont, hr => exact hr.elim
/-- set(xs) of a list, a tuple -/
theorem call_set_seq {l : Addr} {T : String} {items : Array Value} {J : Nat → Heap → Prop} {Q : Value → Shared → Prop} (hT0 : T = "list" ∨ T = "tuple") (hh : A.handled = none) (hl : ∃ o n, s.heap.get? l = some o ∧ o.cls = .type T ∧ o.data = .seq items n)
    (g : ∀ A' : Around, A'.handled = A.handled → A'.units ≤ A.units + 8 → Grows P w A' s.heap s.heap.objs.size items.toList J) (j0 : ∀ h' : Heap, (∀ b o, s.heap.get? b = some o → h'.get? b = some o) → h'.get? s.heap.objs.size = some (freshSet w) → J 0 h')
    (h : ∀ (h' : Heap) (tk : Nat), J items.size h' → (∀ b o, s.heap.get? b = some o → h'.get? b = some o) → Q (.ref s.heap.objs.size) { s with heap := h', toks := tk }) :
    wpAny (model P w) A (call (.type "set") [.ref l]) Q E s := by
  obtain ⟨o, n, hol, hcl, hdl⟩ := hl
  have lS : l < s.heap.objs.size := Heap.lt_size hol
  have hol' : (s.heap.push (freshSet w)).get? l = some o := Heap.get?_push_of_some _ hol
  have hz1 : (s.heap.push (freshSet w)).objs.size = s.heap.objs.size + 1 := Heap.size_push ..
  have neI : l ≠ (s.heap.push (freshSet w)).objs.size := by rw [hz1]; exact Nat.ne_of_lt (Nat.lt_succ_of_lt lS)
  have hSf : ∀ b ∈ [(s.heap.push (freshSet w)).objs.size, l], b ≠ s.heap.objs.size := fun b hb => by
    rcases List.mem_cons.mp hb with z | z
    · rw [z, hz1]
      exact Nat.succ_ne_self _
    · rw [List.mem_singleton.mp z]
      exact Nat.ne_of_lt lS
  have up : s.heap.objs.size < (s.heap.push (freshSet w)).objs.size := by rw [hz1]; exact Nat.lt_succ_self _
  rcases hT0 with rfl | rfl
  · refine call_set_any hol hcl F.sub_list_set F.sub_list_frozenset (by decide) (fun A' Q' E' e1 e2 q => ?_) g j0 h
    have hl1 : (s.heap.push (freshSet w)).IsList l items := ⟨_, hol', hcl, n, hdl⟩
    refine wpAny_pyIter_list hl1 ((q _ _).elim id fun z => absurd ?_ z)
    exact ⟨_, _, rfl, rfl, rfl, up, fun b o e => Heap.get?_push_of_some _ e, hSf, fun A2 a2 => Walks.list (a2.trans hh) _ l neI items, ⟨_, Heap.get?_push_size _ rfl, rfl, rfl⟩, hl1.push _⟩
  · refine call_set_any hol hcl F.sub_tuple_set F.sub_tuple_frozenset (by decide) (fun A' Q' E' e1 e2 q => ?_) g j0 h
    have hl1 : (s.heap.push (freshSet w)).IsTuple l items := ⟨_, hol', hcl, n, hdl⟩
    refine wpAny_pyIter_tuple hl1 ((q _ _).elim id fun z => absurd ?_ z)
    exact ⟨_, _, rfl, rfl, rfl, up, fun b o e => Heap.get?_push_of_some _ e, hSf, fun A2 a2 => Walks.tuple (a2.trans hh) _ l neI items, ⟨_, Heap.get?_push_size _ rfl, rfl, rfl⟩, hl1.push _⟩
end
end EvB
end

section
set_option autoImplicit false
set_option Elab.async false
set_option linter.all false
set_option maxRecDepth 100000
set_option maxHeartbeats 1000000
/-! sets of ints and texts -/
namespace EvB
open PySem PySem.Spec PyProof.Rows L2
open Ev (PV Store Res EnvV CallF CE)
def kOf (e : Int × Value) : L2.Key := match e.2 with
  | .int i _ => .inl i
  | .str x _ => .inr x
  | _ => .inl 0
def GoodM (w : World) (e : Int × Value) : Prop := ∃ k, keyIs k e.2 = true ∧ e.1 = keyH w k
theorem kOf_eq {w : World} {e : Int × Value} (g : GoodM w e) (k : L2.Key) : keyIs k e.2 = true ↔ kOf e = k := by
  obtain ⟨k0, h, _⟩ := g
  unfold kOf
  rcases keyIs_shape h with ⟨i, t, rfl, h2⟩ | ⟨x, t, rfl, h2⟩
  · rw [h2]
    constructor
    · intro z
      rcases keyIs_shape z with ⟨j, u, rfl, e⟩ | ⟨j, u, rfl, e⟩ <;> cases e
      rfl
    · intro z
      subst z
      exact keyIs_int _ _
  · rw [h2]
    constructor
    · intro z
      rcases keyIs_shape z with ⟨j, u, rfl, e⟩ | ⟨j, u, rfl, e⟩ <;> cases e
      rfl
    · intro z
      subst z
      exact keyIs_str _ _
theorem scan_of {k : L2.Key} {v : Value} (h : keyIs k v = true) : v.scannable = true := by
  rcases keyIs_shape h with ⟨i, t, rfl, rfl⟩ | ⟨x, t, rfl, rfl⟩ <;> rfl
section
variable {P : Program} {w : World} {A : Around} {E : Value → Shared → Prop} {s : Shared} {a : Addr} {L : List L2.Key}
theorem good_el {l : List (Int × Value)} (g : ∀ e ∈ l, GoodM w e) : ElemsOf (mixKind P w) l := fun e he => by
  obtain ⟨k, h1, h2⟩ := g e he
  exact ⟨⟨k, h1, h2⟩, scan_of h1⟩
/-- the set at a: L its members in some order -/
def SetM (w : World) (h : Heap) (a : Addr) (L : List L2.Key) : Prop := ∃ o es ep t, h.get? a = some o ∧ o.ExactSet ∧ o.data = .set es ep t ∧ (∀ e ∈ es.toList, GoodM w e) ∧ (es.toList.map kOf).Perm L ∧ L.Nodup ∧
  es.size < scanBound ∧ t.fits es.size = true ∧ Ris t.place.toList ∧ (w.params.followText "set-order" = true ∨ t.led = true)
theorem SetM.at {h h' : Heap} (R : SetM w h a L) (k : ∀ o, h.get? a = some o → h'.get? a = some o) : SetM w h' a L := by
  obtain ⟨o, es, ep, t, ho, r⟩ := R
  exact ⟨o, es, ep, t, k o ho, r⟩
theorem setM_fresh {h : Heap} (e : h.get? a = some (freshSet w)) : SetM w h a [] := by
  refine ⟨_, #[], 0, _, e, ⟨rfl, rfl, rfl⟩, rfl, (fun e he => by simp at he), .nil, List.nodup_nil, (by decide), (by rfl), List.Pairwise.nil, ?_⟩
  show _ ∨ (!w.params.followText "set-order") = true
  cases w.params.followText "set-order"
  · exact .inr rfl
  · exact .inl rfl
theorem setM_tail {g : Bool → Sem Unit} (hg : ∀ (b : Bool) (s₁ : Shared) (Q' : Unit → Shared → Prop), Q' () s₁ → wpAny (model P w) A (g b) Q' E s₁)
    {o : Obj} {es : Array (Int × Value)} {ep : Nat} {t : SetTable} (ho : s.heap.get? a = some o) (hx : o.ExactSet) (hd : o.data = .set es ep t) {es1 : Array (Int × Value)} {t2 : SetTable}
    (g1 : ∀ e ∈ es1.toList, GoodM w e) (p1 : (es1.toList.map kOf).Perm L) (nd : L.Nodup) (hb : es1.size < scanBound) (hf : t2.fits es1.size = true) (hr : Ris t2.place.toList) (hl : w.params.followText "set-order" = true ∨ t2.led = true)
    {wd : Bool} {R : Option Bool → Shared → Prop} (hR : ∀ h', Heap.SameBut a s.heap h' → SetM w h' a L → R (some true) { s with heap := h' }) :
    wpAny (model P w) A (do
      storeSet a es1 t2
      if (!wd && t2.tooFull) = true then do
        g (relayAll t2 es1 (SetTable.grown es1.size)).2.2
        storeSet a (relayAll t2 es1 (SetTable.grown es1.size)).1 (relayAll t2 es1 (SetTable.grown es1.size)).2.1
        pure (some true)
      else pure (some true)) R E s := by
  refine wpAny_bind (wpAny_storeSet_of ho hd ?_ (fits_of_scanBound hb))
  have ho1 := store_at (es' := es1) (t' := t2) ho hd
  have sb1 := Heap.SameBut.update s.heap a (Obj.putSet es1 t2)
  split
  · have pm := relayAll_perm t2 es1 (SetTable.grown es1.size)
    have hf3 := relayAll_fits t2 es1 (SetTable.grown es1.size)
    have hr3 := relayAll_ris t2 es1 (SetTable.grown es1.size)
    have hl3 := relayAll_led t2 es1 (SetTable.grown es1.size)
    generalize relayAll t2 es1 (SetTable.grown es1.size) = Z at pm hf3 hr3 hl3 ⊢
    obtain ⟨es2, t3, gv⟩ := Z
    dsimp only at pm hf3 hr3 hl3 ⊢
    have sz : es2.size = es1.size := by rw [← Array.length_toList, pm.length_eq, Array.length_toList]
    have hb2 : es2.size < scanBound := by rw [sz]; exact hb
    refine wpAny_bind (hg _ _ _ (wpAny_bind (wpAny_storeSet_of ho1 rfl ?_ (fits_of_scanBound hb2))))
    have ho2 := store_at (es' := es2) (t' := t3) ho1 rfl
    refine wpAny_pure (hR _ (sb1.trans (Heap.SameBut.update _ a _)) ⟨_, es2, _, t3, ho2, hx, rfl, fun e he => g1 e (pm.mem_iff.mp he), (pm.map kOf).trans p1, nd, hb2, hf3, hr3, ?_⟩)
    exact hl.imp id fun z => by rw [hl3]; exact z
  · exact wpAny_pure (hR _ sb1 ⟨_, es1, _, t2, ho1, hx, rfl, g1, p1, nd, hb, hf, hr, hl⟩)
open Classical in
noncomputable def addK (L : List L2.Key) (k : L2.Key) : List L2.Key := if k ∈ L then L else L ++ [k]
theorem setM_addHashed {k : L2.Key} {v : Value} {Q : Bool → Shared → Prop} (hk : keyIs k v = true) (R : SetM w s.heap a L) (room : L.length + 1 < scanBound)
    (hQ : ∀ b h', Heap.SameBut a s.heap h' → SetM w h' a (addK L k) → Q b { s with heap := h' }) : wpAny (model P w) A (setAddHashed a v ((mixKind P w).hash k)) Q E s := by
  obtain ⟨o, es, ep, t, ho, hx, hd, g, pm0, nd, hb, hf, hr, hl⟩ := R
  have hel : ElemsOf (mixKind P w) es.toList := good_el g
  have hkey : (mixKind P w).is k v = true := hk
  unfold setAddHashed setAddHashedIn
  refine wpAny_holding (wpAny_bind (wpAny_setState_of ho hd hf ?_))
  dsimp only
  rw [byScan_of (scan_of hk) hb hel]
  simp only [↓reduceIte]
  unfold setAddByScan
  refine wpAny_bind (wpAny_bind (wpAny_rule (wpAny_bind (wpAny_setScan_of hkey ho hd hf hel ?_))))
  have mem : ∀ e ∈ es.toList, keyIs k e.2 = true → k ∈ L := fun e he q => pm0.mem_iff.mp (by rw [← (kOf_eq (g e he) k).mp q]; exact List.mem_map_of_mem he)
  cases hfi : List.findIdx? (fun e => (mixKind P w).is k e.2) es.toList with
  | some j =>
    dsimp only
    obtain ⟨hj, pj, _⟩ := List.findIdx?_eq_some_iff_getElem.mp hfi
    have km : k ∈ L := mem _ (List.getElem_mem hj) pj
    refine wpAny_pure (wpAny_pure (hQ _ s.heap (Heap.SameBut.refl a s.heap) ?_))
    rw [addK, if_pos km]
    exact ⟨o, es, ep, t, ho, hx, hd, g, pm0, nd, hb, hf, hr, hl⟩
  | none =>
    dsimp only
    have kn : k ∉ L := fun z => by
      obtain ⟨e, he, q⟩ := List.mem_map.mp (pm0.mem_iff.mpr z)
      have c := List.findIdx?_eq_none_iff.mp hfi e he
      rw [show (mixKind P w).is k e.2 = true from (kOf_eq (g e he) k).mpr q] at c
      cases c
    have hgw : ∀ (b : Bool) (s₁ : Shared) (Q' : Unit → Shared → Prop), Q' () s₁ → wpAny (model P w) A (match b with | true => rule "set.scan.the-table-gave-way" | false => pure ()) Q' E s₁ :=
      fun b s₁ Q' q => by cases b <;> first | exact wpAny_pure q | exact wpAny_rule q
    have pm := layNew_perm t es ((mixKind P w).hash k) v
    have hf1 := layNew_fits t es ((mixKind P w).hash k) v
    have hr1 := layNew_ris t es ((mixKind P w).hash k) v hr
    have hl1 := layNew_led t es ((mixKind P w).hash k) v
    generalize layNew t es ((mixKind P w).hash k) v = Z at pm hf1 hr1 hl1 ⊢
    obtain ⟨es1, t1, wd, gv⟩ := Z
    dsimp only at pm hf1 hr1 hl1 ⊢
    rw [Array.toList_push] at pm
    have g1 : ∀ e ∈ es1.toList, GoodM w e := fun e he => by
      rcases List.mem_append.mp (pm.mem_iff.mp he) with z | z
      · exact g e z
      · rw [List.mem_singleton.mp z]
        exact ⟨k, hk, rfl⟩
    have kv : kOf ((mixKind P w).hash k, v) = k := (kOf_eq (w := w) ⟨k, hk, rfl⟩ k).mp hk
    have p1 : (es1.toList.map kOf).Perm (addK L k) := by
      rw [addK, if_neg kn]
      have q := pm.map kOf
      rw [List.map_append] at q
      refine q.trans (pm0.append ?_)
      rw [List.map_cons, kv] <;> exact List.Perm.refl _
    have nd1 : (addK L k).Nodup := by
      rw [addK, if_neg kn]
      exact List.nodup_append.mpr ⟨nd, by simp, fun x hx y hy e => kn (by rw [← List.mem_singleton.mp hy, ← e]; exact hx)⟩
    have hsz : es1.size < scanBound := by
      have e1 := pm.length_eq
      have e2 := pm0.length_eq
      rw [List.length_append, List.length_singleton, Array.length_toList] at e1
      rw [List.length_map, Array.length_toList] at e2
      rw [Array.length_toList] at e1
      omega
    have hled : w.params.followText "set-order" = true ∨ t1.led = true := hl.imp id fun z => by rw [hl1]; exact z
    refine wpAny_bind (hgw _ _ _ ?_)
    split
    · refine wpAny_bind ?_
      rw [hashByValue_scannable 8 (scan_of hk)]
      refine wpAny_pure (setM_tail (L := addK L k) (fun b s₁ Q' q => by cases b <;> first | exact wpAny_pure q | exact wpAny_rule q) ho hx hd g1 p1 nd1 hsz ?_ ?_ ?_ ?_)
      · first | (split <;> first | exact hf1 | exact SetTable.fits_plain_off hf1) | exact hf1
      · first | (split <;> exact hr1) | exact hr1
      · first | (split <;> exact hled) | exact hled
      · intro h' sb r; dsimp only; exact wpAny_pure (hQ _ h' sb r)
    · refine wpAny_bind (wpAny_pure ?_)
      simp only [↓reduceIte]
      refine setM_tail (L := addK L k) (fun b s₁ Q' q => by cases b <;> first | exact wpAny_pure q | exact wpAny_rule q) ho hx hd g1 p1 nd1 hsz hf1 hr1 hled ?_
      intro h' sb r; dsimp only; exact wpAny_pure (hQ _ h' sb r)
theorem addK_len (L : List L2.Key) (k : L2.Key) : (addK L k).length ≤ L.length + 1 := by
  unfold addK
  split <;> simp
noncomputable def keysUp (ks : List L2.Key) : List L2.Key := ks.foldl addK []
theorem keysUp_aux : ∀ (ks acc : List L2.Key), acc.Nodup → (ks.foldl addK acc).Nodup ∧ (∀ x, x ∈ ks.foldl addK acc ↔ x ∈ acc ∨ x ∈ ks) ∧ (ks.foldl addK acc).length ≤ acc.length + ks.length
  | [], acc, h => ⟨h, fun x => by simp, by simp⟩
  | k :: ks, acc, h => by
    have h1 : (addK acc k).Nodup := by
      unfold addK
      split
      · exact h
      · rename_i kn
        exact List.nodup_append.mpr ⟨h, by simp, fun x hx y hy e => kn (by rw [← List.mem_singleton.mp hy, ← e]; exact hx)⟩
    obtain ⟨a1, a2, a3⟩ := keysUp_aux ks (addK acc k) h1
    refine ⟨a1, fun x => ?_, ?_⟩
    · rw [List.foldl_cons, a2]
      unfold addK
      split
      · rename_i km
        constructor
        · rintro (z | z)
          · exact .inl z
          · exact .inr (List.mem_cons_of_mem _ z)
        · rintro (z | z)
          · exact .inl z
          · rcases List.mem_cons.mp z with rfl | z
            · exact .inl km
            · exact .inr z
      · rw [List.mem_append, List.mem_singleton, List.mem_cons, or_assoc]
    · rw [List.foldl_cons]
      have := addK_len acc k
      rw [List.length_cons]
      omega
theorem grows_mix {h0 : Heap} {S : Addr} {items : List Value} {ks : List L2.Key} (hp : Paired (fun v k => keyIs k v = true) items ks) (hb : ks.length + 1 < scanBound) : Grows P w A h0 S items fun i h => SetM w h S (keysUp (ks.take i)) where
  keep := fun i h h' J k _ => J.at k
  step := fun i v s Q E hv J q => by
    obtain ⟨k, hk, rk⟩ := paired_get hp hv
    unfold setAdd
    refine wpAny_holding (wpAny_bind ((mixKind P w).pyHash (k := k) rk ?_))
    have e : keysUp (ks.take (i + 1)) = addK (keysUp (ks.take i)) k := by
      unfold keysUp
      rw [List.take_succ, hk]
      simp
    have l1 := (keysUp_aux (ks.take i) [] List.nodup_nil).2.2
    have l2 := List.length_take_le i ks
    refine setM_addHashed (s := { s with toks := s.toks + 1 }) rk J (by unfold keysUp; simp at l1; omega) fun b h' sb R => q b h' _ sb (Nat.le_succ _) ?_
    rw [e]
    exact R
end
/-! ### as values -/
def kP : L2.Key → PV
  | .inl i => .int i
  | .inr x => .str x.cps.toList
theorem kP_mix {k : PV} {c : L2.Key} (h : mixKey k = some c) : kP c = k := by
  cases k <;> simp [mixKey] at h <;> subst h <;> simp [kP]
theorem mix_kP (c : L2.Key) : mixKey (kP c) = some c := by
  cases c with
  | inl i => rfl
  | inr x =>
    cases x
    simp [kP, mixKey, toS]
theorem kP_inj {a b : L2.Key} (h : kP a = kP b) : a = b := by
  have := mix_kP a
  rw [h, mix_kP b] at this
  exact (Option.some.inj this).symm
theorem eqv_mix {a b : PV} (ha : a.isMix = true) (hb : b.isMix = true) : a.eqv b = true ↔ a = b := by
  cases a <;> cases b <;> simp_all [Ev.PV.isMix, Ev.PV.eqv]
theorem dedup_mem {x : PV} : ∀ {l : List PV}, (∀ y ∈ l, y.isMix = true) → (x ∈ Ev.dedup l ↔ x ∈ l)
  | [], _ => Iff.rfl
  | y :: l, h => by
    have ih := dedup_mem (x := x) (l := l) fun z hz => h z (List.mem_cons_of_mem _ hz)
    have hy := h y List.mem_cons_self
    rw [Ev.dedup, List.mem_cons, List.mem_cons, List.mem_filter, ih]
    constructor
    · rintro (z | ⟨z, _⟩)
      · exact .inl z
      · exact .inr z
    · rintro (z | z)
      · exact .inl z
      · by_cases e : x = y
        · exact .inl e
        · refine .inr ⟨z, ?_⟩
          cases q : y.eqv x with
          | false => rfl
          | true => exact absurd ((eqv_mix hy (h x (List.mem_cons_of_mem _ z))).mp q).symm e
theorem dedup_nodup : ∀ {l : List PV}, (∀ y ∈ l, y.isMix = true) → (Ev.dedup l).Nodup
  | [], _ => List.nodup_nil
  | y :: l, h => by
    have h' : ∀ z ∈ l, z.isMix = true := fun z hz => h z (List.mem_cons_of_mem _ hz)
    rw [Ev.dedup]
    refine List.nodup_cons.mpr ⟨fun z => ?_, (dedup_nodup h').filter _⟩
    have q := (List.mem_filter.mp z).2
    have hy := h y List.mem_cons_self
    rw [(eqv_mix hy hy).mpr rfl] at q
    cases q
open Classical in
theorem perm_of_nodup {α : Type} : ∀ {l m : List α}, l.Nodup → m.Nodup → (∀ x, x ∈ l ↔ x ∈ m) → l.Perm m := fun {l m} hl hm h => by
  haveI : DecidableEq α := fun a b => Classical.propDecidable (a = b)
  rw [List.perm_iff_count]
  intro x
  rw [hl.count, hm.count]
  simp only [h x]
end EvB
end

section
set_option autoImplicit false
set_option Elab.async false
set_option linter.all false
set_option maxRecDepth 100000
set_option maxHeartbeats 1000000
/-! sets of tuples: what is asked of a member, the search, the laying anew, the adding -/
namespace EvB
open PySem PySem.Spec PyProof.Rows L2
open Ev (PV Store Res)
section
variable {P : Program} {w : World}
/-- whether a class statement stands behind a value: no -/
def StmAt (P : Program) (w : World) (n : Nat) (s : Shared) (v : Value) : Prop := ∀ (A : Around) (E : Value → Shared → Prop) (Q : Bool → Shared → Prop), Q false s → wpAny (model P w) A (ofAClassStatement n v) Q E s
/-- whether a hash goes by value: one of both -/
def BvAt (P : Program) (w : World) (n : Nat) (s : Shared) (v : Value) : Prop := ∀ (A : Around) (E : Value → Shared → Prop) (Q : Bool → Shared → Prop), (∀ b, Q b s) → wpAny (model P w) A (hashByValue n v) Q E s
theorem stm_atom {n : Nat} {s : Shared} {v : Value} (h : ofAClassStatement n v = pure false) : StmAt P w n s v := fun A E Q q => by
  rw [h]
  exact wpAny_pure q
theorem bv_atom {n : Nat} {s : Shared} {v : Value} (b : Bool) (h : hashByValue n v = pure b) : BvAt P w n s v := fun A E Q q => by
  rw [h]
  exact wpAny_pure (q b)
theorem stm_tup {n : Nat} {s : Shared} {a : Addr} {o : Obj} {vs : Array Value} {m : Nat} (ho : s.heap.get? a = some o) (hc : o.cls = .type "tuple") (hd : o.data = .seq vs m) (hq : ∀ v ∈ vs.toList, StmAt P w n s v) : StmAt P w (n + 1) s (.ref a) := fun A E Q q => by
  have ty : s.TypeIs (.ref a) "tuple" := ⟨o, ho, hc⟩
  have same : (("tuple" : String) == "tuple") = true := by decide
  unfold ofAClassStatement
  refine wpAny_bind (wpAny_typeOf ty ?_)
  dsimp only
  rw [same, if_pos rfl]
  first | refine wpAny_bind (wpAny_pure ?_) | skip
  rw [Bool.not_true, if_neg Bool.false_ne_true]
  first | refine wpAny_bind (wpAny_pure ?_) | skip
  refine wpAny_bind (wpAny_seqItems ho hd ?_)
  dsimp only
  refine wpAny_bind ?_
  rw [← Array.forIn_toList]
  refine wpAny_forIn_list _ (fun more r s1 => s1 = s ∧ r = (none, ()) ∧ ∀ v ∈ more, StmAt P w n s v) _ ?_ ?_ _ _ ⟨rfl, rfl, hq⟩
  · rintro v more r s1 ⟨rfl, rfl, hm⟩
    refine wpAny_bind (hm v List.mem_cons_self A E _ ?_)
    rw [if_neg Bool.false_ne_true]
    exact wpAny_pure ⟨rfl, rfl, fun y hy => hm y (List.mem_cons_of_mem v hy)⟩
  · rintro r s1 ⟨rfl, rfl, -⟩
    exact wpAny_pure q
theorem bv_tup {n : Nat} {s : Shared} {a : Addr} {o : Obj} {vs : Array Value} {m : Nat} (ho : s.heap.get? a = some o) (hc : o.cls = .type "tuple") (hd : o.data = .seq vs m) (hq : ∀ v ∈ vs.toList, BvAt P w n s v) : BvAt P w (n + 1) s (.ref a) := fun A E Q q => by
  have ty : s.TypeIs (.ref a) "tuple" := ⟨o, ho, hc⟩
  unfold hashByValue
  refine wpAny_bind (wpAny_specialOf ty F.slot_tuple_hash.lookup ?_)
  dsimp only
  refine wpAny_bind (wpAny_seqItems ho hd ?_)
  refine wpAny_bind ?_
  show wpAny _ _ (forIn vs _ _) _ _ s
  rw [← Array.forIn_toList]
  refine wpAny_forIn_list _ (fun more r s1 => s1 = s ∧ r = (none, ()) ∧ ∀ v ∈ more, BvAt P w n s v) _ ?_ ?_ _ _ ⟨rfl, rfl, hq⟩
  · rintro v more r s1 ⟨rfl, rfl, hm⟩
    refine wpAny_bind (hm v List.mem_cons_self A E _ fun b => ?_)
    cases b with
    | true =>
      rw [Bool.not_true, if_neg Bool.false_ne_true]
      exact wpAny_pure ⟨rfl, rfl, fun y hy => hm y (List.mem_cons_of_mem v hy)⟩
    | false =>
      rw [Bool.not_false, if_pos rfl]
      exact wpAny_pure (wpAny_pure (q false))
  · rintro r s1 ⟨rfl, rfl, -⟩
    exact wpAny_pure (q true)
mutual
theorem stm_key : ∀ (k : NestedKey) (v : Value) (n : Nat) (s : Shared), NestedIs s.heap k v → k.depth ≤ n → StmAt P w n s v
  | .none, _, n, s, x, _ => by cases x; exact stm_atom (by cases n <;> rfl)
  | .num i, _, n, s, x, _ => by cases x <;> exact stm_atom (by cases n <;> rfl)
  | .text y, _, n, s, x, _ => by cases x; exact stm_atom (by cases n <;> rfl)
  | .tup ks, _, n, s, x, hn => by
    rw [NestedKey.depth] at hn
    cases x with
    | tup hg hc hd hk =>
      obtain ⟨m, rfl⟩ : ∃ m, n = m + 1 := ⟨n - 1, by omega⟩
      exact stm_tup hg hc hd (stm_keys ks _ m s hk (by omega))
theorem stm_keys : ∀ (ks : List NestedKey) (vs : List Value) (n : Nat) (s : Shared), NestedAll s.heap ks vs → NestedKey.depthAll ks ≤ n → ∀ v ∈ vs, StmAt P w n s v
  | [], _, _, _, x, _, _, hv => by cases x; cases hv
  | k :: ks, _, n, s, x, hn, v, hv => by
    rw [NestedKey.depthAll] at hn
    cases x with
    | cons x1 x2 =>
      rcases List.mem_cons.mp hv with rfl | hv
      · exact stm_key k _ n s x1 (by omega)
      · exact stm_keys ks _ n s x2 (by omega) v hv
end
mutual
theorem bv_key : ∀ (k : NestedKey) (v : Value) (n : Nat) (s : Shared), NestedIs s.heap k v → k.depth ≤ n → BvAt P w n s v
  | .none, _, n, s, x, _ => by cases x; exact bv_atom true (by cases n <;> rfl)
  | .num i, _, n, s, x, _ => by cases x <;> exact bv_atom true (by cases n <;> rfl)
  | .text y, _, n, s, x, _ => by cases x; exact bv_atom false (by cases n <;> rfl)
  | .tup ks, _, n, s, x, hn => by
    rw [NestedKey.depth] at hn
    cases x with
    | tup hg hc hd hk =>
      obtain ⟨m, rfl⟩ : ∃ m, n = m + 1 := ⟨n - 1, by omega⟩
      exact bv_tup hg hc hd (bv_keys ks _ m s hk (by omega))
theorem bv_keys : ∀ (ks : List NestedKey) (vs : List Value) (n : Nat) (s : Shared), NestedAll s.heap ks vs → NestedKey.depthAll ks ≤ n → ∀ v ∈ vs, BvAt P w n s v
  | [], _, _, _, x, _, _, hv => by cases x; cases hv
  | k :: ks, _, n, s, x, hn, v, hv => by
    rw [NestedKey.depthAll] at hn
    cases x with
    | cons x1 x2 =>
      rcases List.mem_cons.mp hv with rfl | hv
      · exact bv_key k _ n s x1 (by omega)
      · exact bv_keys ks _ n s x2 (by omega) v hv
end
variable {A : Around} {E : Value → Shared → Prop} {s : Shared}
/-- a member: the tuple at a place is the key -/
abbrev Mem (h : Heap) (k : NestedKey) (a : Addr) : Prop := NestedIs h k (.ref a) ∧ k.depth ≤ 8
theorem seen_mem {k : NestedKey} {b : Addr} {Q : Bool → Shared → Prop} (hk : Mem s.heap k b) {ys : List Value} (hy : ∀ y ∈ ys, ∃ k' c, y = Value.ref c ∧ Mem s.heap k' c) (q : Q false s) :
    wpAny (model P w) A (searchCouldBeSeen (.ref b) ys) Q E s := by
  unfold searchCouldBeSeen
  refine wpAny_bind (wpAny_forIn_list _ (fun more r s1 => s1 = s ∧ r = (none, ()) ∧ ∀ y ∈ more, ∃ k' c, y = Value.ref c ∧ Mem s.heap k' c) _ ?_ ?_ _ _ ⟨rfl, rfl, hy⟩)
  · rintro v more r s1 ⟨rfl, rfl, hm⟩
    obtain ⟨k', c, rfl, hc⟩ := hm v List.mem_cons_self
    have hm2 : ∀ y ∈ more, ∃ k' c, y = Value.ref c ∧ Mem s1.heap k' c := fun y hy => hm y (List.mem_cons_of_mem _ hy)
    dsimp only
    split
    · exact wpAny_pure ⟨rfl, rfl, hm2⟩
    · refine wpAny_bind (quiet_key k _ 8 s1 hk.1 hk.2 A E _ ?_)
      rw [Bool.not_true, if_neg Bool.false_ne_true]
      refine wpAny_bind (quiet_key k' _ 8 s1 hc.1 hc.2 A E _ ?_)
      rw [Bool.not_true, if_neg Bool.false_ne_true]
      refine wpAny_bind (stm_key k _ 8 s1 hk.1 hk.2 A E _ ?_)
      rw [if_neg Bool.false_ne_true]
      refine wpAny_bind (stm_key k' _ 8 s1 hc.1 hc.2 A E _ ?_)
      rw [if_neg Bool.false_ne_true]
      exact wpAny_pure ⟨rfl, rfl, hm2⟩
  · rintro r s1 ⟨rfl, rfl, -⟩
    exact wpAny_pure q
/-- members as rows -/
def rowsN (w : World) (L : List (Addr × NestedKey)) : List (Int × Value) := L.map fun p => (p.2.hash w, Value.ref p.1)
abbrev hashesN (w : World) (L : List (Addr × NestedKey)) : List Int := L.map fun p => p.2.hash w
structure SetN (w : World) (h : Heap) (a : Addr) (L : List (Addr × NestedKey)) (es : Array (Int × Value)) (ep : Nat) (t : SetTable) : Prop where
  ob : ∃ o, h.get? a = some o ∧ o.ExactSet ∧ o.data = .set es ep t
  rows : es.toList = rowsN w L
  tab : TabOk t (hashesN w L)
  nd : (L.map (·.2)).Nodup
  led : w.params.followText "set-order" = true ∨ t.led = true
  room : L.length * 5 < t.mask * 3
  few : L.length < 64
def Mems (h : Heap) (L : List (Addr × NestedKey)) : Prop := ∀ p ∈ L, Mem h p.2 p.1
variable {a : Addr} {L : List (Addr × NestedKey)} {es : Array (Int × Value)} {ep : Nat} {t : SetTable}
theorem rowsN_len {L : List (Addr × NestedKey)} {es : Array (Int × Value)} (h : es.toList = rowsN w L) : es.size = L.length := by
  have := congrArg List.length h
  simpa [rowsN] using this
theorem SetN.fits {h : Heap} (R : SetN w h a L es ep t) : t.fits es.size = true := by
  have h1 : t.place.size = L.length := by simpa using R.tab.sz
  have h2 := rowsN_len R.rows
  have h3 := R.room
  have h4 : t.place.size + 0 ≤ t.mask := by omega
  unfold SetTable.fits SetTable.fill
  rw [R.tab.dm]
  simp only [Bool.and_eq_true, beq_iff_eq, decide_eq_true_eq]
  exact ⟨h1.trans h2.symm, h4⟩
theorem SetN.at {h : Heap} (R : SetN w h a L es ep t) {i : Nat} {p : Addr × NestedKey} (e : L[i]? = some p) : es[i]? = some (p.2.hash w, Value.ref p.1) := by
  have h1 : es.toList[i]? = some (p.2.hash w, Value.ref p.1) := by rw [R.rows, rowsN, List.getElem?_map, e]; rfl
  rwa [Array.getElem?_toList] at h1
theorem SetN.way {h : Heap} (R : SetN w h a L es ep t) : ¬ t.gaveWay = true := by
  have := mask_odd R.tab.mok
  unfold SetTable.gaveWay
  simp [this]
theorem nth_dummy (m : Nat) : ∀ (n : Nat) (p : SetTable.Probe), p.dummy = none → (nth m p n).dummy = none
  | 0, p, h => h
  | n + 1, p, h => nth_dummy m n (adv m p) (by unfold adv; split <;> exact h)
abbrev begN (t : SetTable) (h : Int) : SetTable.Probe := runAt t.mask (SetTable.bits h % (t.mask + 1)) (SetTable.bits h)
/-- the search for a member, from some step of its way on -/
theorem searchN_from (R : SetN w s.heap a L es ep t) (M : Mems s.heap L) {x : Addr} {k : NestedKey} (hx : Mem s.heap k x) (hu : A.units + 8 < cLine) {K : Nat} (bound : K < 10 * SetTable.turns t.mask)
    (free : L2.way t.mask (k.hash w) K ∉ t.place.toList) (full : ∀ c, c < K → L2.way t.mask (k.hash w) c ∈ t.place.toList) {Q : SetFound → Shared → Prop}
    (found : k ∈ L.map (·.2) → Q (.there none) s) (lacks : k ∉ L.map (·.2) → Q (.free (L2.way t.mask (k.hash w) K) false) s) :
    ∀ (f c : Nat) (stand : Option SetTable.Probe), stand.getD (t.probeStart (k.hash w)) = nth t.mask (begN t (k.hash w)) c → c ≤ K → K - c < f →
      (∀ (i : Nat) p, L[i]? = some p → p.2 = k → ∃ c', c ≤ c' ∧ c' < K ∧ t.place.toList[i]? = some (L2.way t.mask (k.hash w) c')) →
      wpAny (model P w) A (setSearchFrom a (.ref x) (k.hash w) true f stand) Q E s
  | 0, c, stand, _, _, lt, _ => absurd lt (Nat.not_lt_zero _)
  | f + 1, c, stand, est, le, lt, ahead => by
    have ⟨o, ho, ox, od⟩ := R.ob
    rw [setSearchFrom_succ]
    refine wpAny_bind (wpAny_setState_of ho od R.fits ?_)
    dsimp only
    rw [if_neg R.way]
    try refine wpAny_bind (wpAny_pure ?_)
    have nd0 := nth_dummy t.mask c (begN t (k.hash w)) rfl
    have step : ∀ q, nth t.mask (nth t.mask (begN t (k.hash w)) c) q = nth t.mask (begN t (k.hash w)) (c + q) := fun q => (nth_add t.mask c _ q).symm
    have stepj : ∀ q, (nth t.mask (nth t.mask (begN t (k.hash w)) c) q).j = L2.way t.mask (k.hash w) (c + q) := fun q => by rw [step]
    have hh : ∀ (i : Nat) p, L[i]? = some p → (es[i]?.map (·.1)).getD 0 = p.2.hash w := fun i p hp => by rw [R.at hp]; rfl
    have last : c + (K - c) = K := by omega
    rcases go_spec t R.tab.ris R.tab.dm (fun i => (es[i]?.map (·.1)).getD 0) (k.hash w) (10 * SetTable.turns t.mask) (K - c) _ nd0 (by omega) (fun q hq => by rw [stepj]; exact full _ (by omega)) (by rw [stepj, last]; exact free) with ⟨q, i, hq, hi, he, before, pr⟩ | ⟨before, pr⟩
    · have pr2 : t.probe (fun i => (es[i]?.map (·.1)).getD 0) (k.hash w) (stand.getD (t.probeStart (k.hash w))) = some (.candidate (L2.way t.mask (k.hash w) (c + q)) i (nth t.mask (begN t (k.hash w)) (c + (q + 1)))) := by
        rw [est, ← stepj, ← step]
        exact pr
      rw [pr2]
      dsimp only
      rw [stepj] at hi
      have il : i < L.length := by
        have z1 : i < t.place.toList.length := (List.getElem?_eq_some_iff.mp hi).1
        have z2 : t.place.size = L.length := by simpa using R.tab.sz
        rw [Array.length_toList] at z1
        omega
      obtain ⟨p, hp⟩ : ∃ p, L[i]? = some p := ⟨_, List.getElem?_eq_getElem il⟩
      have pm : p ∈ L := List.mem_of_getElem? hp
      have go : wpAny (model P w) A (searchRest a (.ref x) (k.hash w) true f es t (L2.way t.mask (k.hash w) (c + q)) i (nth t.mask (begN t (k.hash w)) (c + (q + 1)))) Q E s := by
        unfold searchRest
        rw [R.at hp]
        dsimp only
        refine wpAny_bind (wpAny_holding (eqK hu (M p pm).1 hx.1 (M p pm).2 ?_))
        refine wpAny_bind (wpAny_setState_of ho od R.fits ?_)
        dsimp only
        by_cases same : p.2 = k
        · rw [if_pos (by simp [same])]
          exact wpAny_pure (found (List.mem_map.mpr ⟨p, pm, same⟩))
        · rw [if_neg (by simp [same])]
          try refine wpAny_bind (wpAny_pure ?_)
          rw [sameMem]
          dsimp only
          have live : t.slot (L2.way t.mask (k.hash w) (c + q)) = .live i := slot_live R.tab.ris hi
          simp only [if_true, live, R.at hp]
          refine wpAny_bind (wpAny_isSame_ref_self (wpAny_bind (wpAny_pure ?_)))
          simp only [if_true]
          rw [if_neg (by simp [same])]
          refine searchN_from R M hx hu bound free full found lacks f (c + (q + 1)) _ rfl (by omega) (by omega) fun i0 p0 g0 g1 => ?_
          obtain ⟨c', a1, a2, a3⟩ := ahead i0 p0 g0 g1
          refine ⟨c', ?_, a2, a3⟩
          by_cases z : c' < c + q
          · refine absurd ((hh i0 p0 g0).trans (by rw [g1])) (before (c' - c) i0 (by omega) ?_)
            rw [stepj, show c + (c' - c) = c' by omega]
            exact a3
          · by_cases y : c' = c + q
            · rw [y] at a3
              have live2 := slot_live R.tab.ris a3
              rw [live] at live2
              injection live2 with live2
              rw [← live2, hp] at g0
              cases g0
              exact absurd g1 same
            · omega
      cases led : t.led with
      | true =>
        simp only [Bool.not_true, Bool.false_eq_true, if_false]
        try refine wpAny_bind (wpAny_pure ?_)
        exact go
      | false =>
        simp only [Bool.not_false, if_true]
        refine wpAny_bind (seen_mem hx (fun y hy => ?_) ?_)
        · obtain ⟨r, hr, rfl⟩ := List.mem_map.mp hy
          have r2 : r ∈ es.toList := by
            have : r ∈ es ∧ r.1 = k.hash w := by simpa using hr
            simpa using this.1
          rw [R.rows] at r2
          obtain ⟨p2, h2, rfl⟩ := List.mem_map.mp r2
          exact ⟨p2.2, p2.1, rfl, M p2 h2⟩
        · rw [if_neg Bool.false_ne_true]
          try refine wpAny_bind (wpAny_pure ?_)
          exact go
    · have pr2 : t.probe (fun i => (es[i]?.map (·.1)).getD 0) (k.hash w) (stand.getD (t.probeStart (k.hash w))) = some (.empty (L2.way t.mask (k.hash w) K) none) := by
        have z : L2.way t.mask (k.hash w) K = (nth t.mask (nth t.mask (begN t (k.hash w)) c) (K - c)).j := by rw [stepj, last]
        rw [est, z]
        exact pr
      rw [pr2]
      refine wpAny_pure (lacks fun hm => ?_)
      obtain ⟨p0, h0, h1⟩ := List.mem_map.mp hm
      obtain ⟨i0, g0⟩ := List.mem_iff_getElem?.mp h0
      obtain ⟨c', a1, a2, a3⟩ := ahead i0 p0 g0 h1
      refine before (c' - c) i0 (by omega) ?_ ((hh i0 p0 g0).trans (by rw [h1]))
      rw [stepj, show c + (c' - c) = c' by omega]
      exact a3
theorem searchN (R : SetN w s.heap a L es ep t) (M : Mems s.heap L) {x : Addr} {k : NestedKey} (hx : Mem s.heap k x) (hu : A.units + 8 < cLine) {Q : SetFound → Shared → Prop} (found : k ∈ L.map (·.2) → Q (.there none) s)
    (lacks : ∀ K, k ∉ L.map (·.2) → L2.way t.mask (k.hash w) K ∉ t.place.toList → (∀ c, c < K → L2.way t.mask (k.hash w) c ∈ t.place.toList) → Q (.free (L2.way t.mask (k.hash w) K) false) s) :
    wpAny (model P w) A (setSearch a (.ref x) (k.hash w) true) Q E s := by
  have room := R.room
  obtain ⟨K, b1, b2, b3⟩ := R.tab.first (by rw [List.length_map]; omega) (k.hash w)
  have big : 10 * SetTable.turns t.mask ≤ 1420 := by
    unfold SetTable.turns
    rcases R.tab.mok with z | z | z <;> rw [z] <;> decide
  unfold setSearch
  refine searchN_from R M hx hu b1 b2 b3 found (fun z => lacks K z b2 b3) 100000 0 none rfl (Nat.zero_le _) (by omega) fun i p hp hk => ?_
  have z1 : (hashesN w L)[i]? = some (k.hash w) := by rw [List.getElem?_map, hp, ← hk]; rfl
  have z2 : i < t.place.toList.length := by
    have y1 : i < L.length := (List.getElem?_eq_some_iff.mp hp).1
    have y2 : t.place.size = L.length := by simpa using R.tab.sz
    rw [Array.length_toList]
    omega
  obtain ⟨c, y1, y2⟩ := R.tab.before b2 z1 (List.getElem?_eq_getElem z2)
  exact ⟨c, Nat.zero_le _, y1, by rw [List.getElem?_eq_getElem z2, y2]⟩
end
end EvB
end

section
set_option autoImplicit false
set_option Elab.async false
set_option linter.all false
set_option maxRecDepth 100000
set_option maxHeartbeats 1000000
/-! sets of tuples: the laying anew, the adding, the set that grows -/
namespace EvB
open PySem PySem.Spec PyProof.Rows L2
open Ev (PV Store Res)
section
variable {P : Program} {w : World} {A : Around} {E : Value → Shared → Prop} {s : Shared} {a : Addr} {L : List (Addr × NestedKey)} {es : Array (Int × Value)} {ep : Nat} {t : SetTable}
/-- members stay while the old objects, or all but the set, stay -/
theorem Mem.keep {h h' : Heap} {k : NestedKey} {b : Addr} (m : Mem h k b) (kp : ∀ c o, h.get? c = some o → h'.get? c = some o) : Mem h' k b := ⟨NestedIs.at (fun c o _ _ e _ => kp c o e) _ _ m.1, m.2⟩
theorem Mem.but {h h' : Heap} {k : NestedKey} {b : Addr} {o : Obj} (m : Mem h k b) (ho : h.get? a = some o) (hd : o.data = .set es ep t) (sb : Heap.SameBut a h h') : Mem h' k b :=
  ⟨NestedIs.at (fun c ob vs n e ec => by
    refine (sb.2 c ?_).trans e
    rintro rfl
    rw [ho] at e
    cases e
    rw [hd] at ec
    cases ec) _ _ m.1, m.2⟩
theorem rowsN_ins (p : Nat) (x : Addr) (k : NestedKey) : rowsN w (L.take p ++ (x, k) :: L.drop p) = (rowsN w L).take p ++ (k.hash w, Value.ref x) :: (rowsN w L).drop p := by
  simp [rowsN]
/-- what stands in the entries, taken by places, are members taken so -/
theorem rowsN_pick (hr : es.toList = rowsN w L) : ∀ l : List Nat, (∀ i ∈ l, i < L.length) → l.filterMap (fun i => es[i]?) = rowsN w (l.filterMap fun i => L[i]?) ∧ hashesN w (l.filterMap fun i => L[i]?) = l.map fun i => (es.map (·.1)).getD i 0
  | [], _ => ⟨rfl, rfl⟩
  | i :: l, h => by
    have hi := h i List.mem_cons_self
    obtain ⟨e1, e2⟩ := rowsN_pick hr l fun j hj => h j (List.mem_cons_of_mem _ hj)
    have z1 : L[i]? = some L[i] := List.getElem?_eq_getElem hi
    have z2 : es[i]? = some (L[i].2.hash w, Value.ref L[i].1) := by rw [← Array.getElem?_toList, hr, rowsN, List.getElem?_map, z1]; rfl
    have z3 : (es.map (·.1)).getD i 0 = L[i].2.hash w := by
      rw [Array.getD_eq_getD_getElem?, Array.getElem?_map, z2]; rfl
    refine ⟨?_, ?_⟩
    · rw [List.filterMap_cons_some z2, List.filterMap_cons_some z1, e1]; rfl
    · rw [List.filterMap_cons_some z1, List.map_cons, z3]
      show _ :: hashesN w _ = _
      rw [e2]
theorem pick_all {α : Type} (l : List α) : ∀ n, n ≤ l.length → (List.range n).filterMap (fun i => l[i]?) = l.take n
  | 0, _ => rfl
  | n + 1, h => by
    have z := List.getElem?_eq_getElem (l := l) (i := n) h
    rw [List.range_succ, List.filterMap_append, pick_all l n (by omega), List.take_succ, z, List.filterMap_cons_some z] <;> rfl
theorem relayN {o : Obj} (ho : s.heap.get? a = some o) (ox : o.ExactSet) (od : o.data = .set es ep t) (hr : es.toList = rowsN w L) (psz : t.place.size = es.size) (dm : t.dummies = #[]) (fill : es.size ≤ t.mask)
    (nd : (L.map (·.2)).Nodup) (ld : w.params.followText "set-order" = true ∨ t.led = true) (few : L.length < 64) {wanted N : Nat} (e1 : SetTable.sizeAbove wanted - 1 = N) (mN : MaskOk N) (e2 : SetTable.sizeAbove wanted ≤ 128) (room : L.length * 5 < N * 3)
    {Q : Unit → Shared → Prop} (q : ∀ h' L' es' ep' t', Heap.SameBut a s.heap h' → SetN w h' a L' es' ep' t' → L'.Perm L → Q () { s with heap := h' }) : wpAny (model P w) A (setRelay a wanted) Q E s := by
  have esz := rowsN_len hr
  have fits : t.fits es.size = true := by
    have z : t.place.size + 0 ≤ t.mask := by omega
    unfold SetTable.fits SetTable.fill
    rw [dm]
    simp only [Bool.and_eq_true, beq_iff_eq, decide_eq_true_eq]
    exact ⟨psz, z⟩
  obtain ⟨t2, ord, k1, k2, k3, k4, k5, k6, k7⟩ := relaid_ok t (hs := es.map (·.1)) e1 mN (by rw [Array.size_map]; omega)
  rw [Array.size_map, esz] at k2
  obtain ⟨p1, p2⟩ := rowsN_pick hr ord.toList fun i hi => List.mem_range.mp (k2.mem_iff.mp hi)
  have pm : (ord.toList.filterMap fun i => L[i]?).Perm L := by
    have z := k2.filterMap fun i => L[i]?
    rwa [pick_all L L.length (Nat.le_refl _), List.take_length] at z
  rw [← p2] at k3
  have p3 : (ord.filterMap (es[·]?)).toList = rowsN w (ord.toList.filterMap fun i => L[i]?) := by
    rw [← p1]
    simp
  have p4 : (ord.filterMap (es[·]?)).size = es.size := by rw [rowsN_len p3, pm.length_eq, esz]
  generalize (ord.toList.filterMap fun i => L[i]?) = L2 at k3 pm p3
  generalize hz : ord.filterMap (es[·]?) = es2 at p3 p4
  rw [setRelay_eq]
  refine wpAny_bind (wpAny_setState_of ho od fits ?_)
  dsimp only
  rw [if_neg (by rw [sizeLine_eq]; omega)]
  try refine wpAny_bind (wpAny_pure ?_)
  rw [k1]
  dsimp only
  refine wpAny_bind ?_
  rw [hz, if_neg (by rw [p4]; simp)]
  try refine wpAny_bind (wpAny_pure ?_)
  refine wpAny_pure ?_
  dsimp only
  refine wpAny_storeSet_of ho od ?_ (by rw [p4, esz, sizeLine_eq]; omega)
  refine q _ L2 es2 (ep + 1) t2 (Heap.SameBut.update ..) ⟨⟨_, store_at ho od, ox, rfl⟩, p3, k3, (pm.map _).nodup_iff.mpr nd, ld.imp id fun z => k5.trans z, by rw [pm.length_eq, k4]; exact room, by rw [pm.length_eq]; exact few⟩ pm
theorem addN (R : SetN w s.heap a L es ep t) (M : Mems s.heap L) {x : Addr} {k : NestedKey} (hx : Mem s.heap k x) (hu : A.units + 8 < cLine) (few : L.length + 1 < 64) {Q : Bool → Shared → Prop}
    (q : ∀ b h' L' es' ep' t', Heap.SameBut a s.heap h' → SetN w h' a L' es' ep' t' → (k ∈ L.map (·.2) → L' = L) → (k ∉ L.map (·.2) → L'.Perm (L ++ [(x, k)])) → Q b { s with heap := h' }) :
    wpAny (model P w) A (setAddHashed a (.ref x) (k.hash w)) Q E s := by
  have ⟨o, ho, ox, od⟩ := R.ob
  have esz := rowsN_len R.rows
  have room := R.room
  unfold setAddHashed
  refine wpAny_holding ?_
  rw [show (100000 : Nat) = 99999 + 1 from rfl, setAddHashedIn_succ]
  refine wpAny_bind (wpAny_setState_of ho od R.fits ?_)
  dsimp only
  rw [if_neg (by simp [byScan, Value.scannable])]
  try refine wpAny_bind (wpAny_pure ?_)
  refine wpAny_bind (searchN R M hx hu (fun hm => ?_) fun K hm free full => ?_)
  · dsimp only
    exact wpAny_pure (q false s.heap L es ep t (Heap.SameBut.refl a s.heap) R (fun _ => rfl) fun z => absurd hm z)
  · dsimp only
    refine wpAny_bind (wpAny_setState_of ho od R.fits ?_)
    dsimp only
    obtain ⟨c1, c2, c3, c4, c5, c6, c7, c8, c9⟩ := R.tab.put free full
    generalize ept : t.put (L2.way t.mask (k.hash w) K) = pt at c1 c3 c4 c5 c6 c7 c8 c9 ⊢
    obtain ⟨t1, p⟩ := pt
    dsimp only at c1 c3 c4 c5 c6 c7 c8 c9 ⊢
    subst c1
    have rin : (SetTable.insertAt es (SetTable.below t.place (L2.way t.mask (k.hash w) K)) (k.hash w, Value.ref x)).toList = rowsN w (L.take (SetTable.below t.place (L2.way t.mask (k.hash w) K)) ++ (x, k) :: L.drop (SetTable.below t.place (L2.way t.mask (k.hash w) K))) := by
      rw [SetTable.toList_insertAt, rowsN_ins, R.rows]
    generalize SetTable.below t.place (L2.way t.mask (k.hash w) K) = p at c2 c3 rin ⊢
    have pm : (L.take p ++ (x, k) :: L.drop p).Perm (L ++ [(x, k)]) := (put_perm L p (x, k)).trans (List.perm_append_singleton (x, k) L).symm
    have hsh : hashesN w (L.take p ++ (x, k) :: L.drop p) = (hashesN w L).take p ++ k.hash w :: (hashesN w L).drop p := by simp [hashesN]
    rw [← hsh] at c3
    have nd1 : ((L.take p ++ (x, k) :: L.drop p).map (·.2)).Nodup := by
      refine (pm.map _).nodup_iff.mpr ?_
      rw [List.map_append]
      exact List.nodup_append.mpr ⟨R.nd, by simp, fun y hy z hz e => hm ((show z = k by simpa using hz) ▸ e ▸ hy)⟩
    generalize L.take p ++ (x, k) :: L.drop p = L1 at pm c3 nd1 rin
    have len : L1.length = L.length + 1 := by rw [pm.length_eq, List.length_append]; rfl
    have esz1 := rowsN_len rin
    generalize SetTable.insertAt es p (k.hash w, Value.ref x) = es1 at rin esz1 ⊢
    have tail : ∀ (t2 : SetTable), t2.place = t1.place → t2.mask = t1.mask → t2.dummies = t1.dummies → t2.led = t1.led → t2.fill = t1.fill → t2.tooFull = t1.tooFull → TabOk t2 (hashesN w L1) →
        wpAny (model P w) A (do
          storeSet a es1 t2
          if (!false && t2.tooFull) = true then do
            setRelay a (SetTable.grown (es.size + 1))
            pure true
          else pure true) Q E s := by
      intro t2 d1 d2 d3 d4 d5 d6 T2
      have ld2 : w.params.followText "set-order" = true ∨ t2.led = true := R.led.imp id fun z => by rw [d4, c5]; exact z
      refine wpAny_bind (wpAny_storeSet_of ho od ?_ (by rw [esz1, sizeLine_eq]; omega))
      have sb : Heap.SameBut a s.heap (s.heap.update a (Obj.putSet es1 t2)) := Heap.SameBut.update ..
      have ho1 := store_at (es' := es1) (t' := t2) ho od
      generalize s.heap.update a (Obj.putSet es1 t2) = h1 at sb ho1 ⊢
      have full_iff : t2.tooFull = true ↔ (L.length + 1) * 5 ≥ t2.mask * 3 := by
        unfold SetTable.tooFull
        rw [d5, c9, List.length_map]
        simp
      by_cases hf : t2.tooFull = true
      · rw [if_pos (by simp [hf])]
        have ge := full_iff.mp hf
        have two : (t.mask = 7 ∧ L.length = 4) ∨ (t.mask = 31 ∧ L.length = 18) := by
          rcases R.tab.mok with e | e | e
          · rw [d2, c4, e] at ge; rw [e] at room; exact .inl ⟨e, by omega⟩
          · rw [d2, c4, e] at ge; rw [e] at room; exact .inr ⟨e, by omega⟩
          · rw [d2, c4, e] at ge; omega
        have psz : t2.place.size = es1.size := by
          have z : t2.place.size = L1.length := by simpa using T2.sz
          rw [z, esz1]
        have go : ∀ N, SetTable.sizeAbove (SetTable.grown (es.size + 1)) - 1 = N → MaskOk N → SetTable.sizeAbove (SetTable.grown (es.size + 1)) ≤ 128 → L1.length * 5 < N * 3 →
            wpAny (model P w) A (setRelay a (SetTable.grown (es.size + 1)) >>= fun _ => pure true) Q E { s with heap := h1 } := fun N b1 b2 b3 b4 => by
          refine wpAny_bind (relayN (s := { s with heap := h1 }) ho1 ⟨ox.1, ox.2.1, ox.2.2⟩ rfl rin psz T2.dm (by rw [esz1, len, d2, c4]; rcases two with ⟨e, e2⟩ | ⟨e, e2⟩ <;> omega) nd1 ld2 (by rw [len]; exact few) b1 b2 b3 b4 ?_)
          intro h2 L2 es2 ep2 t3 sb2 R2 pm2
          exact wpAny_pure (q true h2 L2 es2 ep2 t3 (sb.trans sb2) R2 (fun z => absurd z hm) fun _ => pm2.trans pm)
        rcases two with ⟨_, e2⟩ | ⟨_, e2⟩
        · have z : SetTable.sizeAbove (SetTable.grown (es.size + 1)) = 32 := by rw [esz, e2]; exact size_20
          exact go 31 (by rw [z]) (.inr (.inl rfl)) (by rw [z]; decide) (by rw [len, e2]; decide)
        · have z : SetTable.sizeAbove (SetTable.grown (es.size + 1)) = 128 := by rw [esz, e2]; exact size_76
          exact go 127 (by rw [z]) (.inr (.inr rfl)) (by rw [z]; decide) (by rw [len, e2]; decide)
      · rw [if_neg (by simp [hf])]
        have lt : ¬ (L.length + 1) * 5 ≥ t2.mask * 3 := fun z => hf (full_iff.mpr z)
        exact wpAny_pure (q true h1 L1 es1 (ep + 1) t2 sb ⟨⟨_, ho1, ⟨ox.1, ox.2.1, ox.2.2⟩, rfl⟩, rin, T2, nd1, ld2, by rw [len]; omega, by rw [len]; exact few⟩ (fun z => absurd z hm) fun _ => pm)
    have T3 : TabOk { t1 with plain := false } (hashesN w L1) := ⟨c3.ris, c3.dm, c3.sz, c3.mok, c3.bd, c3.reach⟩
    cases pl : t1.plain with
    | true =>
      rw [if_pos rfl]
      refine wpAny_bind (bv_key k (.ref x) 8 s hx.1 hx.2 A E _ fun b => ?_)
      cases b with
      | true => exact tail t1 rfl rfl rfl rfl rfl rfl c3
      | false => exact tail { t1 with plain := false } rfl rfl rfl rfl rfl rfl T3
    | false =>
      rw [if_neg Bool.false_ne_true]
      refine wpAny_bind (wpAny_pure ?_)
      exact tail t1 rfl rfl rfl rfl rfl rfl c3
end
end EvB
end

section
set_option autoImplicit false
set_option Elab.async false
set_option linter.all false
set_option maxRecDepth 100000
set_option maxHeartbeats 1000000
/-! sets of tuples: the set that grows, its members as values -/
namespace EvB
open PySem PySem.Spec PyProof.Rows L2
open Ev (PV Store Res)
open Classical in
noncomputable def addP (L : List (Addr × NestedKey)) (x : Addr × NestedKey) : List (Addr × NestedKey) := if x.2 ∈ L.map (·.2) then L else L ++ [x]
noncomputable def upsN (ks : List (Addr × NestedKey)) : List (Addr × NestedKey) := ks.foldl addP []
theorem addP_le (L : List (Addr × NestedKey)) (x : Addr × NestedKey) : L.length ≤ (addP L x).length := by
  unfold addP
  split
  · exact Nat.le_refl _
  · simp
theorem foldP_le : ∀ (ks L : List (Addr × NestedKey)), L.length ≤ (ks.foldl addP L).length
  | [], L => Nat.le_refl _
  | x :: ks, L => Nat.le_trans (addP_le L x) (foldP_le ks (addP L x))
theorem upsN_take_le (ks : List (Addr × NestedKey)) (i : Nat) : (upsN (ks.take i)).length ≤ (upsN ks).length := by
  have : upsN ks = (ks.drop i).foldl addP (upsN (ks.take i)) := by
    unfold upsN
    rw [← List.foldl_append, List.take_append_drop]
  rw [this]
  exact foldP_le _ _
theorem foldP_sub : ∀ (ks L : List (Addr × NestedKey)) (x : Addr × NestedKey), x ∈ ks.foldl addP L → x ∈ L ∨ x ∈ ks
  | [], L, x, h => .inl h
  | y :: ks, L, x, h => by
    rcases foldP_sub ks _ x h with h | h
    · unfold addP at h
      split at h
      · exact .inl h
      · rcases List.mem_append.mp h with h | h
        · exact .inl h
        · rw [List.mem_singleton.mp h]
          exact .inr List.mem_cons_self
    · exact .inr (List.mem_cons_of_mem _ h)
section
variable {P : Program} {w : World} {A : Around} {E : Value → Shared → Prop} {s : Shared}
theorem setN_fresh {h : Heap} {a : Addr} (e : h.get? a = some (freshSet w)) : SetN w h a [] #[] 0 (.fresh 0 0 (!w.params.followText "set-order")) := by
  refine ⟨⟨_, e, ⟨rfl, rfl, rfl⟩, rfl⟩, rfl, ⟨List.Pairwise.nil, rfl, rfl, .inl rfl, fun x hx => (by cases hx), fun i h j hi => (by simp at hi)⟩, List.nodup_nil, ?_, show 0 * 5 < 7 * 3 by decide, show 0 < 64 by decide⟩
  show _ ∨ (!w.params.followText "set-order") = true
  cases w.params.followText "set-order"
  · exact .inr rfl
  · exact .inl rfl
theorem SetN.keep {h h' : Heap} {a : Addr} {L : List (Addr × NestedKey)} {es : Array (Int × Value)} {ep : Nat} {t : SetTable} (R : SetN w h a L es ep t) (k : ∀ o, h.get? a = some o → h'.get? a = some o) : SetN w h' a L es ep t := by
  obtain ⟨⟨o, ho, r⟩, r2, r3, r4, r5, r6, r7⟩ := R
  exact ⟨⟨o, k o ho, r⟩, r2, r3, r4, r5, r6, r7⟩
/-- what is said of the growing set of tuples -/
def JN (w : World) (h0 : Heap) (S : Addr) (ks : List (Addr × NestedKey)) (i : Nat) (h : Heap) : Prop := (∀ b o, h0.get? b = some o → h.get? b = some o) ∧ ∃ L es ep t, SetN w h S L es ep t ∧ L.Perm (upsN (ks.take i))
theorem grows_tup {h0 : Heap} {S : Addr} {ks : List (Addr × NestedKey)} (fresh : h0.get? S = none) (hk : Mems h0 ks) (few : (upsN ks).length < 63) (hu : A.units + 16 < cLine) : Grows P w A h0 S (ks.map fun p => Value.ref p.1) (JN w h0 S ks) where
  keep := fun i h h' ⟨j1, L, es, ep, t, R, pm⟩ k old => ⟨fun b o e => old b o e (j1 b o e), L, es, ep, t, R.keep k, pm⟩
  step := fun i v s Q E hv ⟨j1, L, es, ep, t, R, pm⟩ q => by
    rw [List.getElem?_map] at hv
    obtain ⟨x, hx, rfl⟩ := Option.map_eq_some_iff.mp hv
    have xm : x ∈ ks := List.mem_of_getElem? hx
    have m := (hk x xm).keep j1
    have tk : upsN (ks.take (i + 1)) = addP (upsN (ks.take i)) x := by
      unfold upsN
      rw [List.take_succ, hx]
      simp
    have le := upsN_take_le ks i
    have M : Mems s.heap L := fun p hp => by
      rcases foldP_sub _ _ _ (pm.mem_iff.mp hp) with z | z
      · cases z
      · exact (hk p (List.mem_of_mem_take z)).keep j1
    unfold setAdd
    refine wpAny_holding (wpAny_bind (pyHash_key x.2 (.ref x.1) A s _ m.1 (by have := m.2; omega) ?_))
    refine addN (s := { s with toks := s.toks + x.2.draws }) R M m (by omega) (by rw [pm.length_eq]; omega) fun b h' L' es' ep' t' sb R' c1 c2 => q b h' _ sb (Nat.le_add_right _ _) ⟨fun c o e => ?_, L', es', ep', t', R', ?_⟩
    · rw [sb.2 c (by rintro rfl; rw [fresh] at e; cases e)]
      exact j1 c o e
    · rw [tk, addP]
      have same : x.2 ∈ L.map (·.2) ↔ x.2 ∈ (upsN (ks.take i)).map (·.2) := (pm.map (·.2)).mem_iff
      by_cases z : x.2 ∈ L.map (·.2)
      · rw [if_pos (same.mp z), c1 z]
        exact pm
      · rw [if_neg fun y => z (same.mpr y)]
        exact (c2 z).trans (pm.append_right _)
end
/-! ### as values -/
abbrev keyed (ms : List (Addr × PV)) : List (Addr × NestedKey) := ms.map fun m => (m.1, toK m.2)
/-- members as values: the first of each stay -/
theorem ups_dedup : ∀ (ms acc : List (Addr × PV)), (∀ m ∈ ms, m.2.keyable = true) → (∀ m ∈ acc, m.2.keyable = true) →
    ∃ ns : List (Addr × PV), (keyed ms).foldl addP (keyed acc) = keyed (acc ++ ns) ∧ (∀ m ∈ ns, m ∈ ms) ∧ ns.map (·.2) = (Ev.dedup (ms.map (·.2))).filter fun y => !(acc.any fun m => m.2.eqv y)
  | [], acc, _, _ => ⟨[], by simp, by simp, by simp [Ev.dedup]⟩
  | m :: ms, acc, hm, ha => by
    have km := hm m List.mem_cons_self
    have hm2 : ∀ x ∈ ms, x.2.keyable = true := fun x hx => hm x (List.mem_cons_of_mem _ hx)
    have mem : toK m.2 ∈ (keyed acc).map (·.2) ↔ acc.any (fun a => a.2.eqv m.2) = true := by
      rw [List.any_eq_true]
      constructor
      · intro h
        obtain ⟨p, hp, e⟩ := List.mem_map.mp h
        obtain ⟨a, hax, rfl⟩ := List.mem_map.mp hp
        exact ⟨a, hax, by rw [toK_eqv _ _ (ha a hax) km]; exact decide_eq_true e⟩
      · rintro ⟨a, hax, e⟩
        rw [toK_eqv _ _ (ha a hax) km] at e
        exact List.mem_map.mpr ⟨_, List.mem_map.mpr ⟨a, hax, rfl⟩, of_decide_eq_true e⟩
    rw [show keyed (m :: ms) = (m.1, toK m.2) :: keyed ms from rfl, List.foldl_cons, List.map_cons, Ev.dedup]
    have subset : ∀ ms : List (Addr × PV), (∀ x ∈ ms, x.2.keyable = true) → ∀ y ∈ Ev.dedup (ms.map (·.2)), y.keyable = true := by
      intro ms hms
      induction ms with
      | nil => intro y hy; simp [Ev.dedup] at hy
      | cons x ms ih =>
        intro y hy
        rw [List.map_cons, Ev.dedup] at hy
        rcases List.mem_cons.mp hy with rfl | hy
        · exact hms x List.mem_cons_self
        · exact ih (fun z hz => hms z (List.mem_cons_of_mem _ hz)) y (List.mem_filter.mp hy).1
    by_cases c : acc.any (fun a => a.2.eqv m.2) = true
    · have e1 : addP (keyed acc) (m.1, toK m.2) = keyed acc := by
        unfold addP
        rw [if_pos (mem.mpr c)]
      rw [e1]
      obtain ⟨ns, h1, h2, h3⟩ := ups_dedup ms acc hm2 ha
      refine ⟨ns, h1, fun x hx => List.mem_cons_of_mem _ (h2 x hx), ?_⟩
      rw [h3, List.filter_cons, if_neg (by rw [c]; decide), List.filter_filter]
      refine List.filter_congr fun y hy => ?_
      have ky := subset ms hm2 y hy
      cases q : m.2.eqv y with
      | false => simp
      | true =>
        obtain ⟨a, ha1, ha2⟩ := List.any_eq_true.mp c
        have z : acc.any (fun m => m.2.eqv y) = true := List.any_eq_true.mpr ⟨a, ha1, by
          rw [toK_eqv _ _ (ha a ha1) km] at ha2
          rw [toK_eqv _ _ km ky] at q
          rw [toK_eqv _ _ (ha a ha1) ky]
          exact decide_eq_true ((of_decide_eq_true ha2).trans (of_decide_eq_true q))⟩
        simp [z]
    · have e1 : addP (keyed acc) (m.1, toK m.2) = keyed (acc ++ [m]) := by
        unfold addP
        rw [if_neg fun z => c (mem.mp z)]
        simp
      rw [e1]
      obtain ⟨ns, h1, h2, h3⟩ := ups_dedup ms (acc ++ [m]) hm2 fun x hx => by
        rcases List.mem_append.mp hx with hx | hx
        · exact ha x hx
        · rw [List.mem_singleton.mp hx]; exact km
      refine ⟨m :: ns, by rw [h1, List.append_assoc]; rfl, fun x hx => ?_, ?_⟩
      · rcases List.mem_cons.mp hx with rfl | hx
        · exact List.mem_cons_self
        · exact List.mem_cons_of_mem _ (h2 x hx)
      · rw [List.map_cons, h3, List.filter_cons, if_pos (by simp only [Bool.not_eq_true] at c; rw [c]; rfl), List.filter_filter]
        congr 1
        refine List.filter_congr fun y hy => ?_
        simp only [List.any_append, List.any_cons, List.any_nil, Bool.or_false, Bool.not_or]
theorem ups_dedup0 {ms : List (Addr × PV)} (hm : ∀ m ∈ ms, m.2.keyable = true) : ∃ ns : List (Addr × PV), upsN (keyed ms) = keyed ns ∧ (∀ m ∈ ns, m ∈ ms) ∧ ns.map (·.2) = Ev.dedup (ms.map (·.2)) := by
  obtain ⟨ns, h1, h2, h3⟩ := ups_dedup ms [] hm (by simp)
  exact ⟨ns, by simpa [upsN] using h1, h2, by rw [h3]; exact List.filter_eq_self.mpr fun _ _ => rfl⟩
theorem perm_map {α β : Type} {f : α → β} : ∀ {l : List β} {m : List α}, l.Perm (m.map f) → ∃ m' : List α, m'.Perm m ∧ l = m'.map f := by
  have key : ∀ {l k : List β}, l.Perm k → ∀ m : List α, k = m.map f → ∃ m' : List α, m'.Perm m ∧ l = m'.map f := by
    intro l k p
    induction p with
    | nil => intro m e; cases m with
      | nil => exact ⟨[], .nil, rfl⟩
      | cons x m => cases e
    | cons x _ ih => intro m e; cases m with
      | nil => cases e
      | cons y m =>
        injection e with e1 e2
        obtain ⟨m', p, e3⟩ := ih m e2
        exact ⟨y :: m', p.cons y, by rw [List.map_cons, e1, e3]⟩
    | swap x y l => intro m e; match m, e with
      | a :: b :: m, e =>
        injection e with e1 e2
        injection e2 with e2 e3
        exact ⟨b :: a :: m, .swap a b m, by rw [List.map_cons, List.map_cons, e1, e2, e3]⟩
    | trans _ _ ih1 ih2 =>
      intro m e
      obtain ⟨m1, p1, e1⟩ := ih2 m e
      obtain ⟨m2, p2, e2⟩ := ih1 m1 e1
      exact ⟨m2, p2.trans p1, e2⟩
  intro l m p
  exact key p m rfl
end EvB
end

section
set_option autoImplicit false
set_option Elab.async false
set_option linter.all false
set_option maxRecDepth 100000
set_option maxHeartbeats 1000000
/-! sorted(set(xs)), len(set(xs)) -/
namespace EvB
open PySem PySem.Spec PyProof.Rows L2
open Ev (PV Store Res EnvV CallF CE)
def SetMO (w : World) (a : Addr) (L : List L2.Key) : HO := .ext fun h => SetM w h a L
theorem setMO_ok {P : Program} {w : World} {H : Hp} {h : Heap} {a : Addr} {L : List L2.Key} (R : SetM w h a L) : ObjOk P w H h a (SetMO w a L) := by
  have ⟨o, _, _, _, ho, _⟩ := R
  exact ⟨R, ⟨o, ho⟩, fun h1 h2 p k => SetM.at p k⟩
def ShortK : L2.Key → Prop
  | .inl _ => True
  | .inr x => x.cps.size ≤ sizeLine
section
variable {w : World} {K : PySem.W.Frag} {al : List Addr} {H : Hp} {P : Addr → Prop}
/-- the values of a list are keys -/
theorem rzl_keys : ∀ {vs : List V} {l : List PV}, RzL w K al H P vs l → (∀ x ∈ l, x.isMix = true) → ∃ ks : List L2.Key, vs = ks.map kV ∧ l = ks.map kP ∧ ∀ k ∈ ks, ShortK k
  | _, _, .nil, _ => ⟨[], rfl, rfl, fun k h => by cases h⟩
  | _, _, .cons (d := d) r t, h => by
    obtain ⟨ks, e1, e2, h3⟩ := rzl_keys t fun x hx => h x (List.mem_cons_of_mem _ hx)
    obtain ⟨c, hc⟩ := isMix_key (h d List.mem_cons_self)
    refine ⟨c :: ks, by rw [List.map_cons, ← e1, mixKey_rz hc r], by rw [List.map_cons, ← e2, kP_mix hc], fun k hk => ?_⟩
    rcases List.mem_cons.mp hk with rfl | hk
    · cases d <;> simp [mixKey] at hc
      · subst hc
        trivial
      · subst hc
        cases r with
        | str _ hs => simpa [ShortK, toS] using hs
    · exact h3 k hk
theorem rz_kP {k : L2.Key} (h : ShortK k) : Rz w K al H P (kV k) (kP k) := by
  cases k with
  | inl i => exact .int i
  | inr x =>
    have e : x = toS x.cps.toList := by cases x; simp [toS]
    show Rz w K al H P (.str x) (.str x.cps.toList)
    have := Rz.str (w := w) (K := K) (al := al) (H := H) (P := P) x.cps.toList (by simpa [ShortK] using h)
    rw [← e] at this
    exact this
theorem rzl_kP : ∀ {ks : List L2.Key}, (∀ k ∈ ks, ShortK k) → RzL w K al H P (ks.map kV) (ks.map kP)
  | [], _ => .nil
  | k :: ks, h => .cons (rz_kP (h k List.mem_cons_self)) (rzl_kP fun j hj => h j (List.mem_cons_of_mem _ hj))
end
theorem rel_key {k : L2.Key} {u : Value} (r : RelV (kV k) u) : keyIs k u = true := by
  cases k with
  | inl i =>
    obtain ⟨t, rfl⟩ := r
    exact keyIs_int _ _
  | inr x =>
    obtain ⟨t, rfl⟩ := r
    exact keyIs_str _ _
theorem vals_keys : ∀ {ks : List L2.Key} {us : List Value}, Vals (ks.map kV) us → Paired (fun v k => keyIs k v = true) us ks
  | [], _, h => by cases h; exact .nil
  | k :: ks, _, h => by
    cases h with
    | cons r t => exact .cons (rel_key r) (vals_keys t)
theorem keys_vals : ∀ {us : List Value} {ks : List L2.Key}, Paired (fun v k => keyIs k v = true) us ks → Vals (ks.map kV) us
  | _, _, .nil => .nil
  | _, _, .cons h t => .cons (kV_key h) (keys_vals t)
theorem dedup_keys (ks : List L2.Key) : ((keysUp ks).map kP).Perm (Ev.dedup (ks.map kP)) := by
  have hm : ∀ x ∈ ks.map kP, x.isMix = true := fun x hx => by
    obtain ⟨k, _, rfl⟩ := List.mem_map.mp hx
    cases k <;> rfl
  obtain ⟨h1, h2, _⟩ := keysUp_aux ks [] List.nodup_nil
  refine perm_of_nodup (List.Pairwise.map kP (fun a b hab e => hab (kP_inj e)) h1) (dedup_nodup hm) fun x => ?_
  rw [dedup_mem hm, List.mem_map, List.mem_map]
  constructor
  · rintro ⟨k, hk, rfl⟩
    exact ⟨k, ((h2 k).mp hk).elim (fun z => by cases z) id, rfl⟩
  · rintro ⟨k, hk, rfl⟩
    exact ⟨k, (h2 k).mpr (.inr hk), rfl⟩
theorem inv_kept2 {X : Cx} {pins : List (Addr × Obj)} {σ : L2.St} {H : Hp} {s s1 : Shared} (I : Inv X pins σ H s) (k : ∀ b u, s.heap.get? b = some u → s1.heap.get? b = some u) (g : s1.gens = s.gens) (o : s1.os = s.os) : Inv X pins σ H s1 := by
  obtain ⟨h', g', d', t', o'⟩ := s1
  cases (show g' = s.gens from g)
  cases (show o' = s.os from o)
  have u : Un X.fs [] H H s.heap h' := Un.kept k
  obtain ⟨m, ⟨o, es, ep, ho, r⟩, _⟩ := id I.loc
  obtain ⟨sl, hL⟩ := u.any ho I.free (by simp)
  exact I.step (g' := s.gens) (d' := d') (ch := []) (fun _ z => nomatch z) (fun b o _ hb _ e n => u.keep b o e n hb (by simp)) (fun b o _ hb _ e n => u.slot b o e n hb (by simp)) (fun b o _ e n => u.free b o e n (by simp)) (fun b o _ e => u.there b o e (by simp)) u.tups u.frzs u.tbls (fun m' hm => by
    obtain ⟨o', es', ep', ho', r'⟩ := hm
    rw [ho] at ho'
    cases ho'
    exact ⟨_, es', ep', hL, r'⟩) (I.hok.kept k) I.bare
section
variable {X : Cx} {al : List Addr} {P : Addr → Prop}
def SetNO (w : World) (a : Addr) (L : List (Addr × NestedKey)) : HO := .ext fun h => ∃ es ep t, SetN w h a L es ep t
theorem setNO_ok {Pg : Program} {w : World} {H : Hp} {h : Heap} {a : Addr} {L : List (Addr × NestedKey)} (R : ∃ es ep t, SetN w h a L es ep t) : ObjOk Pg w H h a (SetNO w a L) := by
  have ⟨es, ep, t, R1⟩ := R
  have ⟨o, ho, _⟩ := R1.ob
  exact ⟨R, ⟨o, ho⟩, fun h1 h2 ⟨es, ep, t, p⟩ k => ⟨es, ep, t, p.keep k⟩⟩
/-- a set stands at p, of these in some order -/
def SetAt (w : World) (K : PySem.W.Frag) (al : List Addr) (P : Addr → Prop) (H : Hp) (p : Addr) (l : List PV) : Prop :=
  (∃ L, H p = some (SetMO w p L) ∧ (∀ k ∈ L, ShortK k) ∧ (L.map kP).Perm l) ∨
  ∃ ms : List (Addr × PV), H p = some (SetNO w p (keyed ms)) ∧ (∀ m ∈ ms, Rz w K al H P (.ref m.1) m.2 ∧ m.2.isKey = true) ∧ (ms.map (·.2)).Perm l
theorem rzl_refs {w : World} {K : PySem.W.Frag} {al : List Addr} {H : Hp} {P : Addr → Prop} : ∀ {vs : List V} {l : List PV}, RzL w K al H P vs l → (∀ x ∈ l, Ev.isTupK x = true) → ∃ ms : List (Addr × PV), vs = ms.map (fun m => V.ref m.1) ∧ l = ms.map (·.2) ∧ ∀ m ∈ ms, Rz w K al H P (.ref m.1) m.2 ∧ m.2.isKey = true
  | _, _, .nil, _ => ⟨[], rfl, rfl, fun m h => by cases h⟩
  | _, _, .cons (d := d) r t, h => by
    obtain ⟨ms, e1, e2, h3⟩ := rzl_refs t fun x hx => h x (List.mem_cons_of_mem _ hx)
    have hd := h d List.mem_cons_self
    unfold Ev.isTupK at hd
    split at hd
    · obtain ⟨a, xs, rfl, -, -⟩ := r.tupE
      exact ⟨(a, _) :: ms, by rw [e1]; rfl, by rw [e2]; rfl, fun m hm => by
        rcases List.mem_cons.mp hm with rfl | hm
        · exact ⟨r, hd⟩
        · exact h3 m hm⟩
    · cases hd
theorem vals_refs : ∀ {ms : List (Addr × PV)} {us : List Value}, Vals (ms.map fun m => V.ref m.1) us → us = ms.map fun m => Value.ref m.1
  | [], _, h => by cases h; rfl
  | m :: ms, _, h => by
    cases h with
    | cons r t =>
      rw [vals_refs t]
      cases r
      rfl
theorem refs_vals : ∀ ms : List (Addr × PV), Vals (ms.map fun m => V.ref m.1) (ms.map fun m => Value.ref m.1)
  | [] => .nil
  | m :: ms => .cons rfl (refs_vals ms)
theorem rzl_of {w : World} {K : PySem.W.Frag} {al : List Addr} {H : Hp} {P : Addr → Prop} : ∀ {ms : List (Addr × PV)}, (∀ m ∈ ms, Rz w K al H P (.ref m.1) m.2) → RzL w K al H P (ms.map fun m => V.ref m.1) (ms.map (·.2))
  | [], _ => .nil
  | m :: ms, h => .cons (h m List.mem_cons_self) (rzl_of fun x hx => h x (List.mem_cons_of_mem _ hx))
/-- set(xs) -/
theorem b_set (hc : X.calm = true) (hu : X.A.units + 128 < cLine) : CallR X (.type "set") (fun xs H Q => ∃ x a l, xs = [x] ∧ Rt X.w X.K al H P x a ∧ Ev.seqOf a = .ok l ∧ Ev.settable l = true ∧
    ∀ p o, H p = none → SetAt X.w X.K al P (upd H p o) p (Ev.dedup l) → Q (.ref p) (upd H p o)) := by
  intro pins s σ H xs us Q I rr h
  obtain ⟨x, a, l, rfl, ha, e, f, q⟩ := h
  obtain ⟨u, rfl, rx⟩ := vals1 rr
  have main : ∀ (p : Addr) (vs : List V) (us : List Value) (items : Array Value) (T : String), x = .ref p → (T = "list" ∨ T = "tuple") → RzL X.w X.K al H P vs l → Vals vs items.toList → (∃ o n, s.heap.get? p = some o ∧ o.cls = .type T ∧ o.data = .seq items n) →
      wpAny (model X.prog X.w) X.A (call (.type "set") [u]) (EP X pins σ Q) X.xe s := by
    intro p vs us items T ex hT rz rv hob
    subst ex
    cases rx
    have hf : H s.heap.objs.size = none := I.hok.fresh (Nat.le_refl _)
    rcases Bool.or_eq_true_iff.mp f with f | f
    · obtain ⟨f1, f2⟩ := Bool.and_eq_true_iff.mp f
      have f1 := List.all_eq_true.mp f1
      have f2 := of_decide_eq_true f2
      obtain ⟨ks, rfl, rfl, hsh⟩ := rzl_keys rz f1
      have hlen : ks.length < 4000 := by simpa using f2
      have hsz : items.size = ks.length := by
        have := rv.length
        rw [List.length_map, Array.length_toList] at this
        exact this.symm
      refine call_set_seq (J := fun i h' => SetM X.w h' s.heap.objs.size (keysUp (ks.take i))) hT (I.ok.hd hc) hob (fun A' _ _ => grows_mix (vals_keys rv) (by unfold scanBound; omega)) (fun h' _ e => by
        show SetM X.w h' _ (keysUp (ks.take 0))
        rw [List.take_zero]
        exact setM_fresh e) fun h' tk J k => ?_
      rw [hsz, List.take_length] at J
      refine ⟨.ref _, upd H s.heap.objs.size (SetMO X.w s.heap.objs.size (keysUp ks)), I.laid (t' := tk) k (Nat.le_refl _) (setMO_ok J), rfl, q _ _ hf (.inl ⟨_, upd_same, fun k hk => hsh k ?_, dedup_keys ks⟩)⟩
      exact (((keysUp_aux ks [] List.nodup_nil).2.1 k).mp hk).elim (fun z => by cases z) id
    · obtain ⟨f1, f2⟩ := Bool.and_eq_true_iff.mp f
      have f1 := List.all_eq_true.mp f1
      have f2 := of_decide_eq_true f2
      obtain ⟨ms, rfl, rfl, hms⟩ := rzl_refs rz f1
      have ei := vals_refs rv
      have kb : ∀ m ∈ ms, m.2.keyable = true := fun m hm => (isKey_and (hms m hm).2).1
      obtain ⟨ns, n1, n2, n3⟩ := ups_dedup0 kb
      have few : (upsN (keyed ms)).length < 63 := by
        rw [n1, List.length_map, ← List.length_map (f := (·.2)), n3]
        exact f2
      have M : Mems s.heap (keyed ms) := fun r hr => by
        obtain ⟨m, hm, rfl⟩ := List.mem_map.mp hr
        exact key_at I (hms m hm).2 (hms m hm).1 rfl
      have ei2 : items.toList = (keyed ms).map fun r => Value.ref r.1 := by rw [ei, List.map_map]; rfl
      have hsz : items.size = (keyed ms).length := by
        have := congrArg List.length ei2
        simpa using this
      have fr : s.heap.get? s.heap.objs.size = none := none_above (Nat.le_refl _)
      refine call_set_seq (J := JN X.w s.heap s.heap.objs.size (keyed ms)) hT (I.ok.hd hc) hob (fun A' _ hu' => by rw [ei2]; exact grows_tup fr M few (by omega)) (fun h' k e => ⟨k, [], #[], 0, _, setN_fresh e, List.Perm.refl _⟩) fun h' tk J k => ?_
      rw [hsz] at J
      obtain ⟨_, L, es, ep, t, R, pm⟩ := J
      rw [List.take_length, n1] at pm
      obtain ⟨os, pm2, rfl⟩ := perm_map pm
      have hos : ∀ m ∈ os, m ∈ ms := fun m hm => n2 m (pm2.mem_iff.mp hm)
      have sm : Same H (upd H s.heap.objs.size (SetNO X.w s.heap.objs.size (keyed os))) := same_new hf
      refine ⟨.ref _, upd H s.heap.objs.size (SetNO X.w s.heap.objs.size (keyed os)), I.laid (t' := tk) k (Nat.le_refl _) (setNO_ok ⟨es, ep, t, R⟩), rfl, q _ _ hf (.inr ⟨os, upd_same, fun m hm => ⟨Rz.ext (C := fun _ => False) (Ext.same sm) (fun _ _ z => z) _ (hms m (hos m hm)).1, (hms m (hos m hm)).2⟩, ?_⟩)⟩
      rw [← n3]
      exact pm2.map _
  cases a <;> first | (simp [Ev.seqOf] at e; done) | skip
  · rename_i l'
    cases e
    obtain ⟨p, vs, rfl, h1, h2⟩ := ha.tupE
    obtain ⟨its, rv, ⟨o, ho, hcl, n, hdat⟩, hz⟩ := I.tuple h1
    exact main p vs its its.toArray "tuple" rfl (.inr rfl) h2 (by simpa using rv) ⟨o, n, ho, hcl, hdat⟩
  · rename_i l'
    cases e
    obtain ⟨p, vs, rfl, h1, h2⟩ := ha.list
    obtain ⟨its, rv, ⟨o, n, ho, hcl, hd, hdat⟩, hz⟩ := I.list (.inl (.inl h1))
    exact main p vs its its.toArray "list" rfl (.inl rfl) h2 (by simpa using rv) ⟨o, n, ho, hcl, hdat⟩
/-- what is gathered from a set -/
theorem set_col {pins : List (Addr × Obj)} {σ : L2.St} {H : Hp} {s : Shared} {p : Addr} {L : List L2.Key} {l : List PV} (I : Inv X pins σ H s) (hc : X.calm = true) (h0 : H p = some (SetMO X.w p L)) (hsh : ∀ k ∈ L, ShortK k) (pm : (L.map kP).Perm l) :
    wpAny (model X.prog X.w) X.A.in1 (collect (.ref p)) (fun us s1 => ∃ H1 vs l', Inv X pins σ H1 s1 ∧ Vals vs us ∧ RzL X.w X.K al H1 P vs l' ∧ l'.Perm l ∧ Same H H1 ∧ (∀ b o, s.heap.get? b = some o → s1.heap.get? b = some o)) (fun _ _ => False) s := by
  have R : SetM X.w s.heap p L := (I.hok p _ h0).1
  obtain ⟨o, es, ep, t, ho, hx, hd, g, pm0, nd, hb, hf, hr, hl⟩ := R
  refine collect_set (show X.A.in1.handled = none from I.ok.hd hc) ⟨o, ho, hx.1, hd⟩ hf hb hr hl fun s1 out kp sz g1 o1 po => ?_
  have hp : ∀ v ∈ out, ∃ k, keyIs k v = true := fun v hv => by
    obtain ⟨e, he, rfl⟩ := List.mem_map.mp (po.mem_iff.mp hv)
    obtain ⟨k, h1, _⟩ := g e he
    exact ⟨k, h1⟩
  have : ∀ out : List Value, (∀ v ∈ out, ∃ k, keyIs k v = true) → Paired (fun v k => keyIs k v = true) out (out.map fun v => kOf (0, v)) := by
    intro out
    induction out with
    | nil => intro _; exact .nil
    | cons v vs ih =>
      intro h
      obtain ⟨k, hk⟩ := h v List.mem_cons_self
      have e : kOf (0, v) = k := by
        rcases keyIs_shape hk with ⟨i, t, rfl, rfl⟩ | ⟨x, t, rfl, rfl⟩ <;> rfl
      refine .cons ?_ (ih fun x hx => h x (List.mem_cons_of_mem _ hx))
      show keyIs (kOf (0, v)) v = true
      rw [e]
      exact hk
  have pr := this out hp
  have pk : (out.map fun v => kOf (0, v)).Perm L := (po.map fun v => kOf (0, v)).trans (by rw [List.map_map]; exact pm0)
  exact ⟨H, _, _, inv_kept2 I kp g1 o1, keys_vals pr, rzl_kP fun k hk => hsh k (pk.mem_iff.mp hk), (pk.map kP).trans pm, Same.refl H, kp⟩
/-- .. from a set of tuples -/
theorem set_colN {pins : List (Addr × Obj)} {σ : L2.St} {H : Hp} {s : Shared} {p : Addr} {ms : List (Addr × PV)} {l : List PV} (I : Inv X pins σ H s) (hc : X.calm = true) (h0 : H p = some (SetNO X.w p (keyed ms))) (hm : ∀ m ∈ ms, Rz X.w X.K al H P (.ref m.1) m.2 ∧ m.2.isKey = true) (pm : (ms.map (·.2)).Perm l) :
    wpAny (model X.prog X.w) X.A.in1 (collect (.ref p)) (fun us s1 => ∃ H1 vs l', Inv X pins σ H1 s1 ∧ Vals vs us ∧ RzL X.w X.K al H1 P vs l' ∧ l'.Perm l ∧ Same H H1 ∧ (∀ b o, s.heap.get? b = some o → s1.heap.get? b = some o)) (fun _ _ => False) s := by
  obtain ⟨es, ep, t, R⟩ := (I.hok p _ h0).1
  have ⟨o, ho, hx, hd⟩ := R.ob
  have few := R.few
  have esz := rowsN_len R.rows
  refine collect_set (show X.A.in1.handled = none from I.ok.hd hc) ⟨o, ho, hx.1, hd⟩ R.fits (by unfold scanBound; omega) R.tab.ris R.led fun s1 out kp sz g1 o1 po => ?_
  have e1 : es.toList.map (·.2) = ms.map fun m => Value.ref m.1 := by
    rw [R.rows, rowsN, List.map_map, List.map_map]; rfl
  rw [e1] at po
  obtain ⟨ns, pn, rfl⟩ := perm_map po
  exact ⟨H, _, _, inv_kept2 I kp g1 o1, refs_vals ns, rzl_of fun m hmm => (hm m (pn.mem_iff.mp hmm)).1, (pn.map _).trans pm, Same.refl H, kp⟩
/-- sorted(set) -/
theorem b_sset (hc : X.calm = true) (hu : X.A.units + 128 < cLine) : CallR X (.builtin "sorted") (fun xs H Q => ∃ p l r, xs = [.ref p] ∧ SetAt X.w X.K al P H p l ∧ Ev.sortedE l = .ok r ∧ (∀ p, H p = none → P p) ∧ Yes X.w X.K al H P true r Q) := by
  intro pins s σ H xs us Q I rr h
  obtain ⟨p, l, r, rfl, at_, e, fr, q⟩ := h
  obtain ⟨u, rfl, rx⟩ := vals1 rr
  cases rx
  rcases at_ with ⟨L, h0, hsh, pm⟩ | ⟨ms, h0, hm, pm⟩
  · exact sorted_rule I hu e fr q (set_col I hc h0 hsh pm)
  · exact sorted_rule I hu e fr q (set_colN I hc h0 hm pm)
/-- len(set) -/
theorem b_lset : CallR X (.builtin "len") (fun xs H Q => ∃ p l, xs = [.ref p] ∧ SetAt X.w X.K al P H p l ∧ Q (.int l.length) H) := by
  intro pins s σ H xs us Q I rr h
  obtain ⟨p, l, rfl, at_, q⟩ := h
  obtain ⟨u, rfl, rx⟩ := vals1 rr
  cases rx
  rcases at_ with ⟨L, h0, hsh, pm⟩ | ⟨ms, h0, hm, pm⟩
  · have R : SetM X.w s.heap p L := (I.hok p _ h0).1
    obtain ⟨o, es, ep, t, ho, hx, hd, g, pm0, nd, hb, hf, hr, hl⟩ := R
    have sz : es.size = l.length := by
      have := pm0.length_eq
      rw [List.length_map, Array.length_toList] at this
      rw [this, ← pm.length_eq, List.length_map]
    refine call_len_set ho hx hd hf (by unfold scanBound at hb; omega) ?_
    rw [sz]
    exact ⟨.int _, H, I.tok _, ⟨_, rfl⟩, q⟩
  · obtain ⟨es, ep, t, R⟩ := (I.hok p _ h0).1
    have ⟨o, ho, hx, hd⟩ := R.ob
    have few := R.few
    have esz := rowsN_len R.rows
    have sz : es.size = l.length := by rw [esz, ← pm.length_eq, List.length_map, List.length_map]
    refine call_len_set ho hx hd R.fits (by omega) ?_
    rw [sz]
    exact ⟨.int _, H, I.tok _, ⟨_, rfl⟩, q⟩
abbrev tSetOf (X : Cx) (al : List Addr) (P : Addr → Prop) (to : TE) : TE := tCB (fun xs H Q => ∃ x a l, xs = [x] ∧ Rt X.w X.K al H P x a ∧ Ev.seqOf a = .ok l ∧ Ev.settable l = true ∧
    ∀ p o, H p = none → SetAt X.w X.K al P (upd H p o) p (Ev.dedup l) → Q (.ref p) (upd H p o)) (tOne to)
theorem pe_setOf {o : Expr} {to : TE} {p pos : Pos} (hc : X.calm = true) (hu : X.A.units + 128 < cLine) (hg : Gl X "set") (hm : X.mg "set" = none) (ho : PE X o to) (hs : notStar o = true) : PE X (.Call (.Name "set" p) [o] [] pos) (tSetOf X al P to) :=
  (pe_callTy (b_set (al := al) (P := P) hc hu) hg hm rfl (pa_one ho hs) (by decide) (by decide) (starEach_cons hs) (bplain rfl))
variable {cf : CallF} {gl : Nat → Option PV} {o : Expr} {co : CE} {p p2 pos pos2 : Pos}
theorem SetAt.mono {w : World} {K : PySem.W.Frag} {P' : Addr → Prop} {H : Hp} {p : Addr} {l : List PV} (h : SetAt w K al P H p l) (k : ∀ m d, Rz w K al H P (.ref m) d → d.isKey = true → Rz w K al H P' (.ref m) d) : SetAt w K al P' H p l :=
  h.imp id fun ⟨ms, h0, hm, pm⟩ => ⟨ms, h0, fun m h => ⟨k _ _ (hm m h).1 (hm m h).2, (hm m h).2⟩, pm⟩
/-- sorted(set(xs)) -/
theorem ce_sset (hc : X.calm = true) (hu : X.A.units + 128 < cLine) (hg : Gl X "sorted") (hm : X.mg "sorted" = none) (hg2 : Gl X "set") (hm2 : X.mg "set" = none) (ho : PE X o (tEv X cf gl co)) (hs : notStar o = true) :
    PE X (.Call (.Name "sorted" p) [.Call (.Name "set" p2) [o] [] pos2] [] pos) (tEv X cf gl (.sset co)) := by
  refine ⟨fun pins s σ H Q I ⟨Z, env, S, r, S', ee, st, eo, q⟩ => ?_⟩
  simp only [Ev.evE] at ee
  obtain ⟨x, S1, h1, ee⟩ := bindP ee
  dsimp only at ee
  obtain ⟨r', h2, ee⟩ := Res.bind_eq_ok ee
  cases ee
  obtain ⟨l, e1, h2⟩ := Res.bind_eq_ok h2
  obtain ⟨f, h2⟩ := need_bind h2
  refine (pe_callB (b_sset (al := Z.al) (P := Z.at []) hc hu) hg hm rfl (pa_one (pe_setOf (al := Z.al) (P := Z.at co.pv) hc hu hg2 hm2 ho hs) rfl) (by decide) (by decide) (starEach_cons rfl) (bplain rfl)).run pins s σ H Q I ⟨Z, env, S, _, S', h1, st, eo, fun v H1 p1 => ?_⟩
  refine ⟨v, x, l, rfl, p1.rt, e1, f, fun b o hb at_ => ?_⟩
  have sm : Same H1 (upd H1 b o) := same_new hb
  exact ⟨b, _, r, rfl, at_.mono fun m d hr hk => Rz.imm (C := fun _ => False) (Ext.refl _ _) _ (imm_of_key _ (isKey_and hk).1) hr, h2, (p1.st.same sm).new _, Yes.post (b := true) (p1.xt.trans (Ext.same sm)) (p1.st.same sm) (fun z => z) (fun i h => h) fun w H' p' => q w H' (p'.sub (fun i h => h) (fun i h => h) fun z => z)⟩
/-- len(set(xs)) -/
theorem ce_lset (hc : X.calm = true) (hu : X.A.units + 128 < cLine) (hg : Gl X "len") (hm : X.mg "len" = none) (hg2 : Gl X "set") (hm2 : X.mg "set" = none) (ho : PE X o (tEv X cf gl co)) (hs : notStar o = true) :
    PE X (.Call (.Name "len" p) [.Call (.Name "set" p2) [o] [] pos2] [] pos) (tEv X cf gl (.lset co)) := by
  refine ⟨fun pins s σ H Q I ⟨Z, env, S, r, S', ee, st, eo, q⟩ => ?_⟩
  simp only [Ev.evE] at ee
  obtain ⟨x, S1, h1, ee⟩ := bindP ee
  dsimp only at ee
  obtain ⟨r', h2, ee⟩ := Res.bind_eq_ok ee
  cases ee
  obtain ⟨l, e1, h2⟩ := Res.bind_eq_ok h2
  obtain ⟨f, h2⟩ := need_bind h2
  cases h2
  refine (pe_callB (b_lset (al := Z.al) (P := Z.at co.pv)) hg hm rfl (pa_one (pe_setOf (al := Z.al) (P := Z.at co.pv) hc hu hg2 hm2 ho hs) rfl) (by decide) (by decide) (starEach_cons rfl) (bplain rfl)).run pins s σ H Q I ⟨Z, env, S, _, S', h1, st, eo, fun v H1 p1 => ?_⟩
  refine ⟨v, x, l, rfl, p1.rt, e1, f, fun b o hb at_ => ?_⟩
  have sm : Same H1 (upd H1 b o) := same_new hb
  refine ⟨b, _, rfl, at_, ?_⟩
  exact q _ _ ⟨p1.xt.trans (Ext.same sm), p1.st.same sm, .int _, .of (.int _), fun z => by cases z⟩
end
end EvB
end

section
set_option autoImplicit false
set_option Elab.async false
set_option linter.all false
set_option maxRecDepth 100000
set_option maxHeartbeats 1000000
/-! an object does not lie within itself -/
namespace EvB
open PySem PySem.Spec PyProof.Rows L2
open Ev (PV Store Res EnvV CallF CE)
mutual
def psz : PV → Nat
  | .tup l => pszL l + 1
  | .lst l => pszL l + 1
  | .dct l => pszD l + 1
  | _ => 1
def pszL : List PV → Nat
  | [] => 0
  | x :: xs => psz x + pszL xs
def pszD : List (PV × PV) → Nat
  | [] => 0
  | (k, v) :: xs => psz k + psz v + pszD xs
end
theorem psz_pos : ∀ d : PV, 0 < psz d
  | .tup _ => by simp [psz]
  | .lst _ => by simp [psz]
  | .dct _ => by simp [psz]
  | .non => by simp [psz]
  | .bl _ => by simp [psz]
  | .int _ => by simp [psz]
  | .str _ => by simp [psz]
  | .cel _ => by simp [psz]
  | .scr _ => by simp [psz]
section
variable {X : Cx} {pins : List (Addr × Obj)} {σ : L2.St} {H : Hp} {s : Shared} {al : List Addr} {P P' : Addr → Prop}
theorem nok (I : Inv X pins σ H s) {a : Addr} {o : HO} (h : H a = some o) : X.K.lookup a = none := by
  cases k : X.K.lookup a with
  | none => rfl
  | some ob =>
    have := (I.bs a ob (I.ok.mod.kin a ob k)).2
    rw [h] at this
    cases this
theorem sqT_fun (I : Inv X pins σ H s) {a : Addr} {xs ys : List V} (h : SqT X.K H a xs) (h' : SqT X.K H a ys) : xs = ys := I.tuple_inj h h'
theorem lst_notT (I : Inv X pins σ H s) {a : Addr} {xs ys : List V} (h : H a = some (.lst xs)) (h' : SqT X.K H a ys) : False := by
  rcases h' with (h' | ⟨o, h'⟩) | ⟨o, its, n, hk, _⟩
  · rw [h] at h'; cases h'
  · rw [h] at h'; cases h'
  · rw [nok I h] at hk; cases hk
theorem dct_notT (I : Inv X pins σ H s) {a : Addr} {u : Heap → Prop} {ys : List V} (h : H a = some (.ext u)) (h' : SqT X.K H a ys) : False := by
  rcases h' with (h' | ⟨o, h'⟩) | ⟨o, its, n, hk, _⟩
  · rw [h] at h'; cases h'
  · rw [h] at h'; cases h'
  · rw [nok I h] at hk; cases hk
theorem scr_notT (I : Inv X pins σ H s) {a : Addr} {xs ys : List V} (h : Scr X.K H a xs) (h' : SqT X.K H a ys) : False := by
  rcases h with ⟨o, h⟩ | ⟨o, its, n, hk, hc, _⟩
  · rcases h' with (h' | ⟨o, h'⟩) | ⟨o, its, n, hk, _⟩
    · rw [h] at h'; cases h'
    · rw [h] at h'; cases h'
    · rw [nok I h] at hk; cases hk
  · rcases h' with (h' | ⟨o, h'⟩) | ⟨o', its', n', hk', hc', _⟩
    · rw [nok I h'] at hk; cases hk
    · rw [nok I h'] at hk; cases hk
    · rw [hk] at hk'
      cases hk'
      rw [hc] at hc'
      exact absurd (Value.type.inj hc') (by decide)
theorem scr_notM (I : Inv X pins σ H s) {a : Addr} {xs : List V} {o : HO} (h : Scr X.K H a xs) (h' : H a = some o) (m : Mut (some o)) : False := by
  rcases h with ⟨o, h⟩ | ⟨o, its, n, hk, hc, _⟩
  · rw [h] at h'
    cases h'
    exact m
  · rw [nok I h'] at hk
    cases hk
theorem al_notT (I : Inv X pins σ H s) (hA : ∀ a ∈ al, ∃ o, H a = some o ∧ Mut (some o)) {a : Addr} {ys : List V} (m : a ∈ al) (h' : SqT X.K H a ys) : False := by
  obtain ⟨o, h, mu⟩ := hA a m
  rcases h' with (h' | ⟨o', h'⟩) | ⟨o', its, n, hk, _⟩
  · rw [h] at h'
    cases h'
    exact mu
  · rw [h] at h'
    cases h'
    exact mu
  · rw [nok I h] at hk
    cases hk
def entVs (es : List Ent) : List (V × V) := es.map fun e => (e.2.1, e.2.2)
theorem ent_inj {w : World} : ∀ {es es' : List Ent} {l : List DictEntry}, Paired (fun (p : Ent) (e : DictEntry) => e.hash = p.1.hash w ∧ L2.RelV p.2.1 e.key ∧ L2.RelV p.2.2 e.val) es l → Paired (fun (p : Ent) (e : DictEntry) => e.hash = p.1.hash w ∧ L2.RelV p.2.1 e.key ∧ L2.RelV p.2.2 e.val) es' l → entVs es = entVs es'
  | _, _, _, .nil, .nil => rfl
  | _, _, _, .cons h t, .cons h' t' => by
    simp only [entVs, List.map_cons]
    rw [L2.RelV.inj h.2.1 h'.2.1, L2.RelV.inj h.2.2 h'.2.2]
    exact congrArg _ (ent_inj t t')
theorem dct_inj {w : World} {a : Addr} {ep ep' : Nat} {es es' : List Ent} (I : Inv X pins σ H s) (h : H a = some (DctO X.w a ep es)) (h' : H a = some (DctO X.w a ep' es')) : entVs es = entVs es' := by
  obtain ⟨⟨_, _, _, o, rs, ho, _, hd, pr⟩, _⟩ := I.hok a _ h
  obtain ⟨⟨_, _, _, o', rs', ho', _, hd', pr'⟩, _⟩ := I.hok a _ h'
  rw [ho] at ho'
  cases ho'
  rw [hd] at hd'
  injection hd' with e1 _
  subst e1
  exact ent_inj pr pr'
mutual
theorem rz_sz (I : Inv X pins σ H s) (hA : ∀ a ∈ al, ∃ o, H a = some o ∧ Mut (some o)) (hP : ∀ a, P a → a ∉ al) (hP' : ∀ a, P' a → a ∉ al) : ∀ (d d' : PV) {v : V}, Rz X.w X.K al H P v d → Rz X.w X.K al H P' v d' → psz d = psz d'
  | .non, d', v, h, h' => by cases h; cases h'; rfl
  | .bl _, d', v, h, h' => by cases h; cases h'; rfl
  | .int _, d', v, h, h' => by cases h; cases h'; rfl
  | .str _, d', v, h, h' => by
    cases h
    generalize hv : V.str _ = v at h'
    cases h' <;> first | rfl | cases hv
  | .tup ds, d', v, h, h' => by
    cases h with
    | tup h1 h2 =>
      cases h' with
      | tup k1 k2 =>
        cases sqT_fun I h1 k1
        simp only [psz]
        rw [rzl_sz I hA hP hP' ds _ h2 k2]
      | lst k1 _ _ => exact (lst_notT I k1 h1).elim
      | dct k1 _ _ => exact (dct_notT I k1 h1).elim
      | scr k1 => exact (scr_notT I k1 h1).elim
      | cel k1 => exact (al_notT I hA (List.mem_of_getElem? k1) h1).elim
  | .lst ds, d', v, h, h' => by
    cases h with
    | lst h1 hp h2 =>
      cases h' with
      | tup k1 k2 => exact (lst_notT I h1 k1).elim
      | lst k1 _ k2 =>
        rw [h1] at k1
        cases k1
        simp only [psz]
        rw [rzl_sz I hA hP hP' ds _ h2 k2]
      | dct k1 _ _ =>
        rw [h1] at k1
        cases k1
      | scr k1 => exact (scr_notM I k1 h1 trivial).elim
      | cel k1 => exact absurd (List.mem_of_getElem? k1) (hP _ hp)
  | .dct ds, d', v, h, h' => by
    cases h with
    | dct h1 hp h2 =>
      cases h' with
      | tup k1 k2 => exact (dct_notT I h1 k1).elim
      | lst k1 _ k2 =>
        rw [h1] at k1
        cases k1
      | dct k1 _ k2 =>
        simp only [psz]
        rw [rzd_sz I hA hP hP' ds _ (dct_inj (w := X.w) I h1 k1) h2 k2]
      | scr k1 => exact (scr_notM I k1 h1 trivial).elim
      | cel k1 => exact absurd (List.mem_of_getElem? k1) (hP _ hp)
  | .cel n, d', v, h, h' => by
    cases h with
    | cel h1 =>
      cases h' with
      | tup k1 k2 => exact (al_notT I hA (List.mem_of_getElem? h1) k1).elim
      | lst _ hp _ => exact absurd (List.mem_of_getElem? h1) (hP' _ hp)
      | dct _ hp _ => exact absurd (List.mem_of_getElem? h1) (hP' _ hp)
      | scr _ => rfl
      | cel _ => rfl
  | .scr ns, d', v, h, h' => by
    cases h with
    | scr h1 =>
      cases h' with
      | tup k1 k2 => exact (scr_notT I h1 k1).elim
      | lst k1 _ _ => exact (scr_notM I h1 k1 trivial).elim
      | dct k1 _ _ => exact (scr_notM I h1 k1 trivial).elim
      | scr _ => rfl
      | cel _ => rfl
theorem rzl_sz (I : Inv X pins σ H s) (hA : ∀ a ∈ al, ∃ o, H a = some o ∧ Mut (some o)) (hP : ∀ a, P a → a ∉ al) (hP' : ∀ a, P' a → a ∉ al) : ∀ (ds ds' : List PV) {vs : List V}, RzL X.w X.K al H P vs ds → RzL X.w X.K al H P' vs ds' → pszL ds = pszL ds'
  | [], _, _, h, h' => by cases h; cases h'; rfl
  | d :: ds, _, _, h, h' => by
    cases h with
    | cons h1 h2 =>
      cases h' with
      | cons k1 k2 =>
        simp only [pszL]
        rw [rz_sz I hA hP hP' d _ h1 k1, rzl_sz I hA hP hP' ds _ h2 k2]
theorem rzd_sz (I : Inv X pins σ H s) (hA : ∀ a ∈ al, ∃ o, H a = some o ∧ Mut (some o)) (hP : ∀ a, P a → a ∉ al) (hP' : ∀ a, P' a → a ∉ al) : ∀ (ds ds' : List (PV × PV)) {es es' : List Ent}, entVs es = entVs es' → RzD X.w X.K al H P es ds → RzD X.w X.K al H P' es' ds' → pszD ds = pszD ds'
  | [], _, _, _, e, h, h' => by
    cases h
    cases h' with
    | nil => rfl
    | cons => cases e
  | (k, v) :: ds, _, _, _, e, h, h' => by
    cases h with
    | cons h1 h2 h3 h4 h5 h6 =>
      cases h' with
      | nil => cases e
      | cons k1 k2 k3 k4 k5 k6 =>
        simp only [entVs, List.map_cons, List.cons.injEq, Prod.mk.injEq] at e
        obtain ⟨⟨e1, e2⟩, e3⟩ := e
        rw [← e1] at k4
        rw [← e2] at k5
        simp only [pszD]
        rw [rz_sz I hA hP hP' k _ h4 k4, rz_sz I hA hP hP' v _ h5 k5, rzd_sz I hA hP hP' ds _ e3 h6 k6]
end
mutual
/-- what is smaller than what lies at a holds not a -/
theorem rz_off {a : Addr} {N : Nat} (hN : ∀ d, Rz X.w X.K al H P (.ref a) d → d.isMut = true → psz d = N) : ∀ (d : PV) {v : V}, psz d < N → Rz X.w X.K al H P v d → Rz X.w X.K al H (fun b => P b ∧ b ≠ a) v d
  | .non, _, _, h => by cases h; exact .non
  | .bl b, _, _, h => by cases h; exact .bl b
  | .int i, _, _, h => by cases h; exact .int i
  | .str s, _, _, h => by cases h with | str _ hs => exact .str s hs
  | .tup ds, _, l, h => by
    simp only [psz] at l
    cases h with
    | tup h1 h2 => exact .tup h1 (rzl_off hN ds (by omega) h2)
  | .lst ds, _, l, h => by
    cases id h with
    | lst h1 hp h2 =>
      simp only [psz] at l
      refine .lst h1 ⟨hp, fun e => ?_⟩ (rzl_off hN ds (by omega) h2)
      subst e
      have := hN _ h rfl
      simp only [psz] at this
      omega
  | .dct ds, _, l, h => by
    cases id h with
    | dct h1 hp h2 =>
      simp only [psz] at l
      refine .dct h1 ⟨hp, fun e => ?_⟩ (rzd_off hN ds (by omega) h2)
      subst e
      have := hN _ h rfl
      simp only [psz] at this
      omega
  | .cel n, _, _, h => by cases h with
    | cel h1 => exact .cel h1
  | .scr ns, _, _, h => by cases h with
    | scr h1 => exact .scr h1
theorem rzl_off {a : Addr} {N : Nat} (hN : ∀ d, Rz X.w X.K al H P (.ref a) d → d.isMut = true → psz d = N) : ∀ (ds : List PV) {vs : List V}, pszL ds < N → RzL X.w X.K al H P vs ds → RzL X.w X.K al H (fun b => P b ∧ b ≠ a) vs ds
  | [], _, _, h => by cases h; exact .nil
  | d :: ds, _, l, h => by
    cases h with
    | cons h1 h2 =>
      simp only [pszL] at l
      exact .cons (rz_off hN d (by omega) h1) (rzl_off hN ds (by omega) h2)
theorem rzd_off {a : Addr} {N : Nat} (hN : ∀ d, Rz X.w X.K al H P (.ref a) d → d.isMut = true → psz d = N) : ∀ (ds : List (PV × PV)) {es : List Ent}, pszD ds < N → RzD X.w X.K al H P es ds → RzD X.w X.K al H (fun b => P b ∧ b ≠ a) es ds
  | [], _, _, h => by cases h; exact .nil
  | (k, v) :: ds, _, l, h => by
    cases h with
    | cons h1 h2 h3 h4 h5 h6 =>
      simp only [pszD] at l
      exact .cons h1 h2 h3 (rz_off hN k (by omega) h4) (rz_off hN v (by omega) h5) (rzd_off hN ds (by omega) h6)
end
/-- the parts of an object are not the object -/
theorem rt_off (I : Inv X pins σ H s) (hA : ∀ a ∈ al, ∃ o, H a = some o ∧ Mut (some o)) (hP : ∀ a, P a → a ∉ al) {a : Addr} {d : PV} (na : a ∉ al) (m : d.isMut = true) (h : Rt X.w X.K al H P (.ref a) d) : Rt X.w X.K al H (fun b => P b ∧ b ≠ a) (.ref a) d := by
  have hQ : ∀ b, (P b ∨ b = a) → b ∉ al := fun b z => z.elim (hP b) fun e => by rw [e]; exact na
  cases d <;> first | (cases m; done) | skip
  · rename_i ds
    obtain ⟨b, xs, e, h1, h2⟩ := h.list
    cases e
    refine .lst h1 (rzl_off (N := psz (.lst ds)) (fun d' h' _ => ?_) ds (by simp [psz]) h2)
    exact rz_sz I hA hP hQ d' (.lst ds) h' (.lst h1 (.inr rfl) (h2.mono fun _ _ _ q => .inl q))
  · rename_i ds
    obtain ⟨b, ep, es, e, h1, h2⟩ := h.dict
    cases e
    refine .dct h1 (rzd_off (N := psz (.dct ds)) (fun d' h' _ => ?_) ds (by simp [psz]) h2)
    exact rz_sz I hA hP hQ d' (.dct ds) h' (.dct h1 (.inr rfl) (h2.mono fun _ _ _ q => .inl q))
end
end EvB
end

section
set_option autoImplicit false
set_option Elab.async false
set_option linter.all false
set_option maxRecDepth 100000
set_option maxHeartbeats 1000000
/-! the state at a statement -/
namespace EvB
open PySem PySem.Spec PyProof.Rows L2
open Ev (PV Store Res EnvV CallF CE Sl)
/-! ### slots -/
theorem freeze_val (s : Sl) : s.freeze.val = s.val := by cases s <;> rfl
theorem demF_get : ∀ (env : Ev.Env) (is : List Nat) (k i : Nat), (Ev.demoteFrom k env is)[i]? = (env[i]?).map fun s => if is.contains (k + i) then s.freeze else s
  | [], is, k, i => by simp [Ev.demoteFrom]
  | s :: r, is, k, 0 => by simp [Ev.demoteFrom]
  | s :: r, is, k, i + 1 => by
    rw [Ev.demoteFrom, List.getElem?_cons_succ, demF_get r is (k + 1) i, List.getElem?_cons_succ]
    rw [show k + 1 + i = k + (i + 1) by omega]
theorem dem_get (env : Ev.Env) (is : List Nat) (i : Nat) : (Ev.demote env is)[i]? = (env[i]?).map fun s => if is.contains i then s.freeze else s := by
  have := demF_get env is 0 i
  rw [Nat.zero_add] at this
  exact this
theorem vals_get (env : Ev.Env) (i : Nat) : (Ev.vals env)[i]? = (env[i]?).map Sl.val := List.getElem?_map ..
theorem vals_len (env : Ev.Env) : (Ev.vals env).length = env.length := List.length_map ..
theorem vals_dem (env : Ev.Env) (is : List Nat) : Ev.vals (Ev.demote env is) = Ev.vals env := by
  apply List.ext_getElem?
  intro i
  rw [vals_get, vals_get, dem_get, Option.map_map]
  cases env[i]? with
  | none => rfl
  | some s =>
    simp only [Option.map_some, Function.comp]
    split
    · rw [freeze_val]
    · rfl
theorem dem_len (env : Ev.Env) (is : List Nat) : (Ev.demote env is).length = env.length := by
  have := congrArg List.length (vals_dem env is)
  rwa [vals_len, vals_len] at this
theorem vals_set (env : Ev.Env) (i : Nat) (s : Sl) : Ev.vals (env.set i s) = (Ev.vals env).set i s.val := List.map_set ..
theorem dem_ow {env : Ev.Env} {is : List Nat} {i : Nat} {v : PV} : (Ev.demote env is)[i]? = some (.ow v) ↔ env[i]? = some (.ow v) ∧ i ∉ is := by
  rw [dem_get]
  cases h : env[i]? with
  | none => simp
  | some s =>
    by_cases m : i ∈ is
    · have c : is.contains i = true := by simpa using m
      simp only [Option.map_some, c, if_true]
      constructor
      · intro z
        cases s <;> simp [Sl.freeze] at z
      · intro z
        exact absurd m z.2
    · have c : is.contains i = false := by simpa using m
      simp only [Option.map_some, c, Bool.false_eq_true, if_false]
      exact ⟨fun z => ⟨z, m⟩, fun z => z.1⟩
/-! ### what has come since -/
structure Since (Z : Sit) (H : Hp) (Z' : Sit) (H' : Hp) : Prop where
  p : Z'.P = Z.P
  live : ∀ a, H a ≠ none → H' a ≠ none
  ext : Ext (fun a => a ∈ Z.al ∨ ∃ i, Z.O i = some a) H H'
  own : ∀ i a, Z'.O i = some a → (∃ j, Z.O j = some a) ∨ H a = none
  al : (Z'.al = Z.al ∧ Z'.C = Z.C) ∨ (Z.al = [] ∧ ∀ a ∈ Z'.al, H a = none)
theorem Since.refl (Z : Sit) (H : Hp) : Since Z H Z H := ⟨rfl, fun _ h => h, Ext.refl _ _, fun i a h => .inl ⟨i, h⟩, .inl ⟨rfl, rfl⟩⟩
theorem Since.inAl {Z Z' : Sit} {H H' : Hp} (s : Since Z H Z' H') {a : Addr} (h : a ∈ Z'.al) : a ∈ Z.al ∨ H a = none := by
  rcases s.al with z | z
  · exact .inl (by rw [← z.1]; exact h)
  · exact .inr (z.2 a h)
theorem Since.trans {Z Z1 Z2 : Sit} {H H1 H2 : Hp} (s : Since Z H Z1 H1) (t : Since Z1 H1 Z2 H2) : Since Z H Z2 H2 := by
  have dead : ∀ a, H1 a = none → H a = none := fun a h => by
    cases k : H a with
    | none => rfl
    | some o => exact absurd h (s.live a (by rw [k]; exact fun z => nomatch z))
  refine ⟨t.p.trans s.p, fun a h => t.live a (s.live a h), fun b o e => ?_, fun i a h => ?_, ?_⟩
  · rcases s.ext b o e with z | z
    · rcases t.ext b o z with q | ⟨q, m⟩
      · exact .inl q
      · refine .inr ⟨?_, m⟩
        rcases q with q | ⟨i, q⟩
        · rcases s.inAl q with r | r
          · exact .inl r
          · rw [e] at r; cases r
        · rcases s.own i b q with r | r
          · exact .inr r
          · rw [e] at r; cases r
    · exact .inr z
  · rcases t.own i a h with ⟨j, q⟩ | q
    · exact s.own j a q
    · exact .inr (dead a q)
  · rcases t.al with ⟨e1, e2⟩ | ⟨e1, e2⟩
    · rcases s.al with ⟨e3, e4⟩ | ⟨e3, e4⟩
      · exact .inl ⟨e1.trans e3, e2.trans e4⟩
      · exact .inr ⟨e3, fun a h => e4 a (by rw [← e1]; exact h)⟩
    · rcases s.al with ⟨e3, _⟩ | ⟨e3, _⟩
      · exact .inr ⟨by rw [← e3]; exact e1, fun a h => dead a (e2 a h)⟩
      · exact .inr ⟨e3, fun a h => dead a (e2 a h)⟩
section
variable {X : Cx} {Z Z' : Sit} {H H' : Hp} {S S' : Store} {σ : L2.St} {env : Ev.Env} {v : V} {d r : PV}
/-- only what Z itself holds is less -/
theorem Since.less (p : Z'.P = Z.P) (al : Z'.al = Z.al) (c : Z'.C = Z.C) (o : ∀ i a, Z'.O i = some a → Z.O i = some a) : Since Z H Z' H :=
  ⟨p, fun _ h => h, Ext.refl _ _, fun i a h => .inl ⟨i, o i a h⟩, .inl ⟨al, c⟩⟩
theorem Since.xt (x : XtA Z H H') (s : StOk X.w X.K Z H' S') : Since Z H Z H' := by
  refine ⟨rfl, fun a h e => ?_, x.mono fun _ h => .inl h, fun i a h => .inl ⟨i, h⟩, .inl ⟨rfl, rfl⟩⟩
  rcases Ext.free x e with z | z
  · exact h z
  · exact s.alive z e
/-- the state -/
structure SS (X : Cx) (Z : Sit) (σ : L2.St) (H : Hp) (env : Ev.Env) (S : Store) : Prop where
  wide : env.length = σ.length
  st : StOk X.w X.K Z H S
  eo : EnvOk X Z σ H (Ev.vals env)
  own : ∀ i v, env[i]? = some (.ow v) → ∃ a, Z.O i = some a ∧ σ[i]? = some (some (.ref a)) ∧ v.isMut = true
  only : ∀ i a, Z.O i = some a → ∃ v, env[i]? = some (.ow v)
  inj : ∀ i j a, Z.O i = some a → Z.O j = some a → i = j
theorem SS.xt (h : SS X Z σ H env S) (x : XtA Z H H') (s' : StOk X.w X.K Z H' S') : SS X Z σ H' env S' := ⟨h.wide, s', h.eo.xt x, h.own, h.only, h.inj⟩
theorem at_less {Z Z' : Sit} {is : List Nat} {a : Addr} (p : Z'.P = Z.P) (al : Z'.al = Z.al) (o : ∀ i a, Z'.O i = some a → Z.O i = some a) (h : Z.at is a) : Z'.at is a := ⟨by rw [p]; exact h.1, by rw [al]; exact h.2.1, fun i e => h.2.2 i (o i a e)⟩
theorem EnvOk.less {Z Z' : Sit} {env : EnvV} (p : Z'.P = Z.P) (al : Z'.al = Z.al) (o : ∀ i a, Z'.O i = some a → Z.O i = some a) (h : EnvOk X Z σ H env) : EnvOk X Z' σ H env := ⟨h.len, fun i d q => by
  obtain ⟨v, h1, h2, h3⟩ := h.get i d q
  refine ⟨v, h1, ?_, ?_⟩
  · rw [al]
    exact h2.mono fun a _ _ q => at_less p al o q
  · rw [al]
    exact h3.mono fun a _ _ q => at_less p al o q⟩
theorem StOk.less {Z Z' : Sit} (p : Z'.P = Z.P) (al : Z'.al = Z.al) (c : Z'.C = Z.C) (o : ∀ i a, Z'.O i = some a → Z.O i = some a) (h : StOk X.w X.K Z H S) : StOk X.w X.K Z' H S :=
  ⟨by rw [al]; exact h.len, by rw [al]; exact h.nod, fun a e => by rw [p]; exact h.fr a e, fun n a e => by rw [al] at e ⊢; rw [c]; exact h.cel n a e, fun a e => by rw [c] at e; exact ⟨(h.csub a e).1, at_less p al o (h.csub a e).2⟩, fun i a e => by rw [al]; exact h.own i a (o i a e)⟩
/-- some slots hold nothing alone -/
def Sit.fz (Z : Sit) (is : List Nat) : Sit := { Z with O := fun i => if i ∈ is then none else Z.O i }
theorem fz_O {Z : Sit} {is : List Nat} {i : Nat} {a : Addr} (h : (Z.fz is).O i = some a) : i ∉ is ∧ Z.O i = some a := by
  have h : (if i ∈ is then none else Z.O i) = some a := h
  split at h
  · cases h
  · exact ⟨by assumption, h⟩
theorem fz_at {Z : Sit} {is : List Nat} {a : Addr} (h : Z.at is a) : (Z.fz is).at [] a := ⟨h.1, h.2.1, fun i e => by
  obtain ⟨h1, h2⟩ := fz_O e
  exact absurd (h.2.2 i h2) h1⟩
theorem fz_less {Z : Sit} {is : List Nat} : ∀ i a, (Z.fz is).O i = some a → Z.O i = some a := fun i a h => (fz_O h).2
theorem SS.fz (h : SS X Z σ H env S) (is : List Nat) : SS X (Z.fz is) σ H (Ev.demote env is) S :=
  ⟨by rw [dem_len]; exact h.wide, StOk.less (Z := Z) (Z' := Z.fz is) rfl rfl rfl fz_less h.st, by rw [vals_dem]; exact EnvOk.less (Z := Z) (Z' := Z.fz is) rfl rfl fz_less h.eo, fun i v e => by
    obtain ⟨e1, e2⟩ := dem_ow.mp e
    obtain ⟨a, h1, h2, h3⟩ := h.own i v e1
    exact ⟨a, by show (if i ∈ is then none else Z.O i) = _; rw [if_neg e2]; exact h1, h2, h3⟩, fun i a e => by
    obtain ⟨e1, e2⟩ := fz_O e
    obtain ⟨v, h1⟩ := h.only i a e2
    exact ⟨v, dem_ow.mpr ⟨h1, e1⟩⟩, fun i j a e1 e2 => h.inj i j a (fz_less i a e1) (fz_less j a e2)⟩
theorem fz_since {is : List Nat} : Since Z H (Z.fz is) H := Since.less rfl rfl rfl fz_less
/-- a value that may be in slots' own objects is let out of them -/
theorem SS.let (h : SS X Z σ H env S) (is : List Nat) (rz : Rz X.w X.K Z.al H (Z.at is) v r) : ∃ Z', SS X Z' σ H (Ev.dem r env is) S ∧ Since Z H Z' H ∧ Z'.al = Z.al ∧ Z'.C = Z.C ∧ (∀ i a, Z'.O i = some a → Z.O i = some a) ∧ Rz X.w X.K Z'.al H (Z'.at []) v r := by
  unfold Ev.dem
  cases q : r.imm with
  | true =>
    rw [if_pos rfl]
    exact ⟨Z, h, Since.refl _ _, rfl, rfl, fun _ _ h => h, rz.imm (Ext.refl (fun _ => False) H) r q⟩
  | false =>
    rw [if_neg Bool.false_ne_true]
    exact ⟨Z.fz is, h.fz is, fz_since, rfl, rfl, fz_less, rz.mono fun a _ _ q => fz_at q⟩
/-- a slot holds a frozen value -/
theorem SS.setF (h : SS X Z σ H env S) (i : Nat) (rz : Rz X.w X.K Z.al H (Z.at []) v r) : SS X (Z.fz [i]) (σ.set i (some v)) H (env.set i (.fz r)) S := by
  refine ⟨by rw [List.length_set, List.length_set]; exact h.wide, StOk.less (Z := Z) (Z' := Z.fz [i]) rfl rfl rfl fz_less h.st, ?_, fun j u e => ?_, fun j a e => ?_, fun j k a e1 e2 => h.inj j k a (fz_less j a e1) (fz_less k a e2)⟩
  · rw [vals_set]
    have r1 : Rz X.w X.K (Z.fz [i]).al H ((Z.fz [i]).at []) v r := rz.mono fun a _ _ q => at_less (Z := Z) (Z' := Z.fz [i]) rfl rfl fz_less q
    exact (EnvOk.less (Z := Z) (Z' := Z.fz [i]) rfl rfl fz_less h.eo).set (rz_sub r1 fun _ h => (by cases h)) (.of r1)
  · by_cases q : i = j
    · subst q
      by_cases lt : i < env.length
      · rw [List.getElem?_set_self lt] at e
        cases e
      · rw [List.getElem?_eq_none (by simpa using lt)] at e
        cases e
    · rw [List.getElem?_set_ne q] at e
      obtain ⟨a, h1, h2, h3⟩ := h.own j u e
      refine ⟨a, ?_, by rw [List.getElem?_set_ne q]; exact h2, h3⟩
      show (if j ∈ [i] then none else Z.O j) = _
      rw [if_neg (by simp only [List.mem_singleton]; exact fun z => q z.symm)]
      exact h1
  · obtain ⟨e1, e2⟩ := fz_O e
    obtain ⟨u, h1⟩ := h.only j a e2
    have q : i ≠ j := fun z => e1 (by simp [z])
    exact ⟨u, by rw [List.getElem?_set_ne q]; exact h1⟩
theorem at_mut {is : List Nat} {a : Addr} (rz : Rz X.w X.K Z.al H (Z.at is) (.ref a) r) (m : r.isMut = true) : Z.at is a ∧ H a ≠ none := ⟨rz_top rz m, rt_some (.of rz) m⟩
theorem al_mut (s : StOk X.w X.K Z H S) : ∀ a ∈ Z.al, ∃ o, H a = some o ∧ Mut (some o) := fun a m => by
  obtain ⟨n, hn⟩ := List.getElem?_of_mem m
  obtain ⟨d, _, mu, rt⟩ := s.cel n a hn
  cases d <;> first | (cases mu; done) | skip
  · obtain ⟨b, xs, e, h1, _⟩ := rt.list
    cases e
    exact ⟨_, h1, trivial⟩
  · obtain ⟨b, ep, es, e, h1, _⟩ := rt.dict
    cases e
    exact ⟨_, h1, trivial⟩
/-- the parts of the value are not the value -/
def Acy (X : Cx) (al : List Addr) (H' : Hp) (v : V) (r : PV) : Prop := ∀ (P : Addr → Prop), (∀ a, P a → a ∉ al) → ∀ a, v = .ref a → a ∉ al → r.isMut = true → Rt X.w X.K al H' P v r → Rt X.w X.K al H' (fun b => P b ∧ b ≠ a) v r
def tEvA (X : Cx) (cf : CallF) (gl : Nat → Option PV) (ce : CE) : TE := fun σ H Q => ∃ (Z : Sit) (env : EnvV) (S : Store) (r : PV) (S' : Store), Ev.evE cf gl env ce S = .ok (r, S') ∧ StOk X.w X.K Z H S ∧ EnvOk X Z σ H env ∧
  ∀ v H', Post X Z H ce.tv ce.pv ce.fresh r S' v H' → Acy X Z.al H' v r → Q v H'
theorem PE_up {cf : CallF} {gl : Nat → Option PV} {ce : CE} {e : Expr} (h : PE X e (tEv X cf gl ce)) : PE X e (tEvA X cf gl ce) := ⟨fun pins s σ H Q I ⟨Z, env, S, r, S', e1, st, eo, q⟩ =>
  thn (h.run pins s σ H (fun v H' => Post X Z H ce.tv ce.pv ce.fresh r S' v H') I ⟨Z, env, S, r, S', e1, st, eo, fun v H' p => p⟩) fun u s' ⟨v, H', I', rv, p⟩ => ⟨v, H', I', rv, q v H' p fun P hP a ea na m rt => by
    subst ea
    exact rt_off I' (al_mut p.st) hP na m rt⟩⟩
/-- a slot holds a new object alone -/
theorem SS.setO {i : Nat} {a : Addr} {Hb : Hp} (I : Acy X Z.al H (.ref a) r) (h : SS X Z σ H env S) (lt : i < env.length) (rz : Rz X.w X.K Z.al H (Z.at []) (.ref a) r) (m : r.isMut = true)
    (hb : EnvOk X Z σ Hb (Ev.vals env)) (x : XtA Z Hb H) (hC : ∀ a, Z.C a → Hb a ≠ none) (hO : ∀ i a, Z.O i = some a → Hb a ≠ none) (hn : Hb a = none) : ∃ Z', SS X Z' (σ.set i (some (.ref a))) H (env.set i (.ow r)) S ∧ Since Z Hb Z' H := by
  obtain ⟨ha, hl⟩ := at_mut rz m
  have lσ : i < σ.length := by have := h.eo.len; rw [vals_len] at this; omega
  let Z' : Sit := { Z with O := fun j => if j = i then some a else Z.O j }
  have O' : ∀ {j b}, Z'.O j = some b → (j = i ∧ b = a) ∨ (j ≠ i ∧ Z.O j = some b) := fun {j b} e => by
    have e : (if j = i then some a else Z.O j) = some b := e
    split at e
    · cases e
      exact .inl ⟨by assumption, rfl⟩
    · exact .inr ⟨by assumption, e⟩
  have up : ∀ {js b}, b ≠ a → Z.at js b → Z'.at js b := fun {js b} ne q => ⟨q.1, q.2.1, fun j e => by
    rcases O' e with ⟨_, z⟩ | ⟨_, z⟩
    · exact absurd z ne
    · exact q.2.2 j z⟩
  have nb : ∀ b, Hb b ≠ none → b ≠ a := fun b q z => q (by rw [z]; exact hn)
  refine ⟨Z', ⟨by rw [List.length_set, List.length_set]; exact h.wide, ⟨h.st.len, h.st.nod, h.st.fr, h.st.cel, fun b c => ⟨(h.st.csub b c).1, up (nb b (hC b c)) (h.st.csub b c).2⟩, fun j b e => ?_⟩, ?_, fun j u e => ?_, fun j b e => ?_, fun j k b e1 e2 => ?_⟩, ?_⟩
  · rcases O' e with ⟨_, rfl⟩ | ⟨_, z⟩
    · exact ⟨hl, ha.2.1⟩
    · exact h.st.own j b z
  · rw [vals_set]
    have e1 : EnvOk X Z' σ Hb (Ev.vals env) := ⟨hb.len, fun j d q => by
      obtain ⟨u, k1, k2, k3⟩ := hb.get j d q
      exact ⟨u, k1, k2.mono fun b o e q => up (nb b (by rw [e]; exact fun z => nomatch z)) q, k3.mono fun b o e q => up (nb b (by rw [e]; exact fun z => nomatch z)) q⟩⟩
    have u1 : ∀ b, Z.at [] b → Z'.at [i] b := fun b q => ⟨q.1, q.2.1, fun j e => by
      rcases O' e with ⟨z, _⟩ | ⟨_, z⟩
      · exact List.mem_singleton.mpr z
      · cases q.2.2 j z⟩
    have u2 : ∀ b, Z.at [] b ∧ b ≠ a → Z'.at [] b := fun b q => ⟨q.1.1, q.1.2.1, fun j e => by
      rcases O' e with ⟨_, z⟩ | ⟨_, z⟩
      · exact absurd z q.2
      · exact q.1.2.2 j z⟩
    exact (e1.xt (Z := Z') x).set (rz.mono fun b _ _ q => u1 b q) ((I (Z.at []) (fun b q => q.2.1) a rfl ha.2.1 m (.of rz)).mono fun b _ _ q => u2 b q)
  · by_cases q : j = i
    · subst q
      rw [List.getElem?_set_self lt] at e
      cases e
      exact ⟨a, by show (if j = j then some a else Z.O j) = _; rw [if_pos rfl], List.getElem?_set_self lσ, m⟩
    · rw [List.getElem?_set_ne (Ne.symm q)] at e
      obtain ⟨b, k1, k2, k3⟩ := h.own j u e
      exact ⟨b, by show (if j = i then some a else Z.O j) = _; rw [if_neg q]; exact k1, by rw [List.getElem?_set_ne (Ne.symm q)]; exact k2, k3⟩
  · rcases O' e with ⟨rfl, rfl⟩ | ⟨ne, z⟩
    · exact ⟨r, List.getElem?_set_self lt⟩
    · obtain ⟨u, k⟩ := h.only j b z
      exact ⟨u, by rw [List.getElem?_set_ne (Ne.symm ne)]; exact k⟩
  · rcases O' e1 with ⟨rfl, rfl⟩ | ⟨n1, z1⟩
    · rcases O' e2 with ⟨rfl, _⟩ | ⟨n2, z2⟩
      · rfl
      · exact absurd hn (hO k _ z2)
    · rcases O' e2 with ⟨rfl, rfl⟩ | ⟨n2, z2⟩
      · exact absurd hn (hO j _ z1)
      · exact h.inj j k b z1 z2
  · have S1 := Since.xt (X := X) x h.st
    refine ⟨S1.p, S1.live, S1.ext, fun j b e => ?_, S1.al⟩
    rcases O' e with ⟨_, rfl⟩ | ⟨_, z⟩
    · exact .inr hn
    · exact .inl ⟨j, z⟩
/-- i = e -/
theorem SS.bind {i : Nat} {e : CE} (I : Acy X Z.al H' v r) (h : SS X Z σ H env S) (p : Post X Z H e.tv e.pv e.fresh r S' v H') (lt : i < env.length) :
    ∃ Z', SS X Z' (σ.set i (some v)) H' ((Ev.dem r env e.tv).set i (Ev.mkSl e r)) S' ∧ Since Z H Z' H' := by
  have h1 := h.xt p.xt p.st
  obtain ⟨Z1, h2, s2, al2, c2, o2, rz2⟩ := h1.let e.tv p.rz
  have s1 : Since Z H Z H' := Since.xt p.xt p.st
  unfold Ev.mkSl
  cases q : (e.fresh && r.isMut) with
  | false =>
    rw [if_neg Bool.false_ne_true]
    exact ⟨_, h2.setF i rz2, s1.trans (s2.trans fz_since)⟩
  | true =>
    rw [if_pos rfl]
    obtain ⟨q1, q2⟩ := Bool.and_eq_true_iff.mp q
    obtain ⟨a, rfl⟩ : ∃ a, v = .ref a := by
      cases r <;> first | (cases q2; done) | skip
      · obtain ⟨a, xs, e, _⟩ := p.rt.list
        exact ⟨a, e⟩
      · obtain ⟨a, ep, es, e, _⟩ := p.rt.dict
        exact ⟨a, e⟩
    have hn : H a = none := (p.fr q1 a rfl).elim id fun z => by rw [q2] at z; cases z
    have lt2 : i < (Ev.dem r env e.tv).length := by
      unfold Ev.dem
      split
      · exact lt
      · have := congrArg List.length (vals_dem env e.tv)
        rw [vals_len, vals_len] at this
        omega
    have hv : Ev.vals (Ev.dem r env e.tv) = Ev.vals env := by
      unfold Ev.dem
      split
      · rfl
      · exact vals_dem _ _
    have x2 : XtA Z1 H H' := by
      show Ext (fun a => a ∈ Z1.al) H H'
      rw [al2]
      exact p.xt
    obtain ⟨Z2, h3, s3⟩ := h2.setO (i := i) (Hb := H) (by rw [al2]; exact I) lt2 rz2 q2 (by rw [hv]; exact h.eo.less s2.p al2 o2) x2 (fun a c => (h.st.csub a (by rw [← c2]; exact c)).1) (fun j a e => (h.st.own j a (o2 j a e)).1) hn
    exact ⟨Z2, h3, (Since.less (H := H) s2.p al2 c2 o2).trans s3⟩
end
end EvB
end

section
set_option autoImplicit false
set_option Elab.async false
set_option linter.all false
set_option maxRecDepth 100000
set_option maxHeartbeats 1000000
/-! statements: what they are to reach -/
namespace EvB
open PySem PySem.Spec PyProof.Rows L2
open Ev (PV Store Res EnvV CallF CE CS IT Tgt)
/-- no matter who holds it -/
abbrev Sit.all (Z : Sit) (a : Addr) : Prop := Z.P a ∧ a ∉ Z.al
def EndsOk (X : Cx) (Z : Sit) (H : Hp) (D : Ends) (f : Ev.Flow) (env' : Ev.Env) (S' : Store) : Prop := match f with
  | .nx => ∀ Z' σ' H', SS X Z' σ' H' env' S' → Since Z H Z' H' → D.nx σ' H'
  | .cont => ∀ Z' σ' H', SS X Z' σ' H' env' S' → Since Z H Z' H' → D.ct σ' H'
  | .brk => ∀ Z' σ' H', SS X Z' σ' H' env' S' → Since Z H Z' H' → D.bk σ' H'
  | .ret r => ∀ Z' σ' H' x, SS X Z' σ' H' env' S' → Since Z H Z' H' → Rz X.w X.K Z'.al H' Z'.all x r → D.rt x H'
def tSt (X : Cx) (cf : CallF) (gl : Nat → Option PV) (W : Nat) (c : CS) : TS := fun D σ H => ∃ (Z : Sit) (env : Ev.Env) (S : Store) (f : Ev.Flow) (env' : Ev.Env) (S' : Store), Ev.evS cf gl W env c S = .ok (f, env', S') ∧ SS X Z σ H env S ∧ EndsOk X Z H D f env' S'
def tBl (X : Cx) (cf : CallF) (gl : Nat → Option PV) (W : Nat) (cs : List CS) : TS := fun D σ H => ∃ (Z : Sit) (env : Ev.Env) (S : Store) (f : Ev.Flow) (env' : Ev.Env) (S' : Store), Ev.evB cf gl W env cs S = .ok (f, env', S') ∧ SS X Z σ H env S ∧ EndsOk X Z H D f env' S'
section
variable {X : Cx} {Z Z' : Sit} {H H' : Hp} {S S' : Store} {σ : L2.St} {env env' : Ev.Env} {v : V} {d r : PV} {D : Ends} {f : Ev.Flow}
theorem EndsOk.since (h : EndsOk X Z H D f env' S') (s : Since Z H Z' H') : EndsOk X Z' H' D f env' S' := by
  cases f with
  | nx => exact fun Z2 σ2 H2 a b => h Z2 σ2 H2 a (s.trans b)
  | cont => exact fun Z2 σ2 H2 a b => h Z2 σ2 H2 a (s.trans b)
  | brk => exact fun Z2 σ2 H2 a b => h Z2 σ2 H2 a (s.trans b)
  | ret r => exact fun Z2 σ2 H2 x a b => h Z2 σ2 H2 x a (s.trans b)
/-- with the invariant at hand behind the statement -/
theorem PS_toI {st : Stmt} {t t' : TS} (h : PS X st t) (w : ∀ D σ H, t' D σ H → ∃ D1, t D1 σ H ∧ (∀ pins s σ' H', Inv X pins σ' H' s → D1.nx σ' H' → D.nx σ' H') ∧ (∀ σ' H', D1.bk σ' H' → D.bk σ' H') ∧ (∀ σ' H', D1.ct σ' H' → D.ct σ' H') ∧ ∀ v H', D1.rt v H' → D.rt v H') : PS X st t' := ⟨fun pins s σ H D I q => by
  obtain ⟨D1, q1, hn, hb, hc, hr⟩ := w D σ H q
  refine thn (h.run pins s σ H D1 I q1) fun f s' e => ?_
  cases f with
  | next =>
    obtain ⟨σ', H', I', z⟩ := e
    exact ⟨σ', H', I', hn _ _ _ _ I' z⟩
  | brk =>
    obtain ⟨σ', H', I', z⟩ := e
    exact ⟨σ', H', I', hb _ _ z⟩
  | cont =>
    obtain ⟨σ', H', I', z⟩ := e
    exact ⟨σ', H', I', hc _ _ z⟩
  | ret u =>
    obtain ⟨v, σ', H', I', rv, z⟩ := e
    exact ⟨v, σ', H', I', rv, hr _ _ z⟩⟩
variable {cf : CallF} {gl : Nat → Option PV} {W : Nat} {ce : CE} {e : Expr} {pos : Pos} {c : CS} {cs : List CS} {st : Stmt} {sts : List Stmt}
theorem bs_nil : PSs X [] (tBl X cf gl W []) := ⟨fun pins s σ H D I ⟨Z, env, S, f, env', S', e, h, q⟩ => by
  simp only [Ev.evB] at e
  cases e
  exact pss_nil.run pins s σ H D I (q Z σ H h (Since.refl _ _))⟩
theorem bs_cons (h1 : PS X st (tSt X cf gl W c)) (h2 : PSs X sts (tBl X cf gl W cs)) : PSs X (st :: sts) (tBl X cf gl W (c :: cs)) := ⟨fun pins s σ H D I ⟨Z, env, S, f, env', S', e, h, q⟩ => by
  refine (pss_cons h1 h2).run pins s σ H D I ?_
  simp only [Ev.evB] at e
  obtain ⟨⟨f1, env1, S1⟩, e1, e⟩ := Res.bind_eq_ok e
  dsimp only at e
  refine ⟨Z, env, S, f1, env1, S1, e1, h, ?_⟩
  cases f1 with
  | nx => exact fun Z1 σ1 H1 h1 s1 => ⟨Z1, env1, S1, f, env', S', e, h1, q.since s1⟩
  | cont => cases e; exact q
  | brk => cases e; exact q
  | ret v => cases e; exact q⟩
/-- name = e -/
theorem cs_set {i : Nat} (hi : i < X.N.length) (h : PS X st (tAsg (tEvA X cf gl ce) (gName i))) : PS X st (tSt X cf gl W (.set i ce)) := by
  refine ⟨fun pins s σ H D I q => ?_⟩
  have hl := I.len
  have lt : i < σ.length := by omega
  refine h.run pins s σ H D I ?_
  obtain ⟨Z, env, S, f, env', S', e, h, q⟩ := q
  simp only [Ev.evS] at e
  obtain ⟨r, S1, e1, e⟩ := bindP e
  cases e
  refine ⟨Z, Ev.vals env, S, r, S1, e1, h.st, h.eo, fun x H1 p ac => ?_⟩
  obtain ⟨Z', h', s'⟩ := h.bind ac p (i := i) (by rw [h.wide]; exact lt)
  exact q Z' _ H1 h' s'
theorem cs_ret (he : PE X e (tEv X cf gl ce)) : PS X (.Return (some e) pos) (tSt X cf gl W (.ret ce)) := PS_to (ps_ret he) fun D σ H ⟨Z, env, S, f, env', S', e, h, q⟩ => by
  simp only [Ev.evS] at e
  obtain ⟨r, S1, e1, e⟩ := bindP e
  cases e
  refine ⟨Z, Ev.vals env, S, r, S1, e1, h.st, h.eo, fun x H1 p => q Z σ H1 x (h.xt p.xt p.st) (Since.xt p.xt p.st) ?_⟩
  exact p.rz.mono fun a _ _ q => ⟨q.1, q.2.1⟩
theorem cs_retn : PS X (.Return none pos) (tSt X cf gl W .retn) := PS_to ps_retN fun D σ H ⟨Z, env, S, f, env', S', e, h, q⟩ => by
  simp only [Ev.evS] at e
  cases e
  exact q Z σ H .non h (Since.refl _ _) .non
theorem cs_pass : PS X (.Pass pos) (tSt X cf gl W .pass) := PS_to ps_pass fun D σ H ⟨Z, env, S, f, env', S', e, h, q⟩ => by
  simp only [Ev.evS] at e
  cases e
  exact q Z σ H h (Since.refl _ _)
theorem cs_brk : PS X (.Break pos) (tSt X cf gl W .brk) := PS_to ps_break fun D σ H ⟨Z, env, S, f, env', S', e, h, q⟩ => by
  simp only [Ev.evS] at e
  cases e
  exact q Z σ H h (Since.refl _ _)
theorem cs_cont : PS X (.Continue pos) (tSt X cf gl W .cont) := PS_to ps_continue fun D σ H ⟨Z, env, S, f, env', S', e, h, q⟩ => by
  simp only [Ev.evS] at e
  cases e
  exact q Z σ H h (Since.refl _ _)
theorem cs_doc {x : Str} {j : Nat} {pos' : Pos} : PS X (.Expr (.Constant (.str x) j pos) pos') (tSt X cf gl W .doc) := PS_to ps_doc fun D σ H ⟨Z, env, S, f, env', S', e, h, q⟩ => by
  simp only [Ev.evS] at e
  cases e
  exact q Z σ H h (Since.refl _ _)
theorem cs_ifs {a b : List Stmt} {ca cb : List CS} (hc : PT X e (tEvT X cf gl ce)) (ha : PSs X a (tBl X cf gl W ca)) (hb : PSs X b (tBl X cf gl W cb)) : PS X (.If e a b pos) (tSt X cf gl W (.ifs ce ca cb)) := PS_to (ps_if hc ha hb) fun D σ H ⟨Z, env, S, f, env', S', e, h, q⟩ => by
  simp only [Ev.evS] at e
  obtain ⟨x, S1, e1, e⟩ := bindP e
  dsimp only at e
  obtain ⟨t, e2, e⟩ := Res.bind_eq_ok e
  refine ⟨Z, Ev.vals env, S, x, S1, t, e1, e2, h.st, h.eo, fun H1 x1 s1 => ?_⟩
  cases t with
  | true =>
    rw [if_pos rfl] at e ⊢
    exact ⟨Z, env, S1, f, env', S', e, h.xt x1 s1, q.since (Since.xt x1 s1)⟩
  | false =>
    rw [if_neg Bool.false_ne_true] at e ⊢
    exact ⟨Z, env, S1, f, env', S', e, h.xt x1 s1, q.since (Since.xt x1 s1)⟩
theorem cs_while {b : List Stmt} {cb : List CS} (hp : PassesOwn (model X.prog X.w) X.A X.env X.xe) (hc : PT X e (tEvT X cf gl ce)) (hb : PSs X b (tBl X cf gl W cb)) : PS X (.While e b [] pos) (tSt X cf gl W (.whil ce cb)) := PS_to (ps_while hp hc hb) fun D σ H ⟨Z, env, S, f, env', S', e, h, q⟩ => by
  simp only [Ev.evS] at e
  generalize hk : (fun env1 S1 => _ : Ev.Env → Store → Res (Bool × Store)) = cnd at e
  refine ⟨fun n σ1 H1 => ∃ Z1 env1 S1, Ev.whileL cnd (fun env1 S1 => Ev.evB cf gl W env1 cb S1) n env1 S1 = .ok (f, env', S') ∧ SS X Z1 σ1 H1 env1 S1 ∧ Since Z H Z1 H1, ⟨W, Z, env, S, e, h, Since.refl _ _⟩, ?_⟩
  rintro n σ1 H1 ⟨Z1, env1, S1, e1, h1, s1⟩
  cases n with
  | zero => cases e1
  | succ n =>
    simp only [Ev.whileL] at e1
    obtain ⟨t, S2, e2, e1⟩ := bindP e1
    dsimp only at e1
    rw [← hk] at e2
    dsimp only at e2
    obtain ⟨x, S3, e3, e2⟩ := bindP e2
    dsimp only at e2
    obtain ⟨t', e4, e2⟩ := Res.bind_eq_ok e2
    cases e2
    refine ⟨Z1, Ev.vals env1, S1, x, S2, t, e3, e4, h1.st, h1.eo, fun H2 x2 s2 => ?_⟩
    have h2 := h1.xt x2 s2
    have s12 := s1.trans (Since.xt x2 s2)
    cases t with
    | true =>
      rw [if_pos rfl] at e1
      refine iteT ?_
      obtain ⟨⟨f1, env2, S4⟩, e5, e1⟩ := Res.bind_eq_ok e1
      dsimp only at e1
      refine ⟨fun σ' H' => ∃ Z2, Ev.whileL cnd (fun env1 S1 => Ev.evB cf gl W env1 cb S1) n env2 S4 = .ok (f, env', S') ∧ SS X Z2 σ' H' env2 S4 ∧ Since Z H Z2 H', fun σ' H' ⟨Z2, k1, k2, k3⟩ => ⟨n, Nat.lt_succ_self n, Z2, env2, S4, k1, k2, k3⟩, Z1, env1, S2, f1, env2, S4, e5, h2, ?_⟩
      cases f1 with
      | nx => exact fun Z2 σ2 H3 k1 k2 => ⟨Z2, e1, k1, s12.trans k2⟩
      | cont => exact fun Z2 σ2 H3 k1 k2 => ⟨Z2, e1, k1, s12.trans k2⟩
      | brk =>
        cases e1
        exact fun Z2 σ2 H3 k1 k2 => q Z2 σ2 H3 k1 (s12.trans k2)
      | ret v =>
        cases e1
        exact fun Z2 σ2 H3 x k1 k2 => q Z2 σ2 H3 x k1 (s12.trans k2)
    | false =>
      rw [if_neg Bool.false_ne_true] at e1
      refine iteF ?_
      cases e1
      exact q Z1 σ1 H2 h2 s12
end
end EvB
end

section
set_option autoImplicit false
set_option Elab.async false
set_option linter.all false
set_option maxRecDepth 100000
set_option maxHeartbeats 1000000
/-! for -/
namespace EvB
open PySem PySem.Spec PyProof.Rows L2
open Ev (PV Store Res EnvV CallF CE CS IT Tgt)
mutual
theorem pv_tv : ∀ (e : CE) (i : Nat), i ∈ e.pv → i ∈ e.tv
  | .non, i, h => by simp [CE.pv] at h
  | .bl _, i, h => by simp [CE.pv] at h
  | .int _, i, h => by simp [CE.pv] at h
  | .str _, i, h => by simp [CE.pv] at h
  | .gl _, i, h => by simp [CE.pv] at h
  | .slot _, i, h => by simp [CE.pv] at h
  | .tup es, i, h => by simpa [CE.pv, CE.tv] using h
  | .lst es, i, h => by simpa [CE.pv, CE.tv] using h
  | .dic es, i, h => by simpa [CE.pv, CE.tv] using h
  | .bin _ a b, i, h => by simpa [CE.pv, CE.tv] using h
  | .neg _, i, h => by simp [CE.pv] at h
  | .not _, i, h => by simp [CE.pv] at h
  | .and es, i, h => by
    simp only [CE.pv] at h
    simp only [CE.tv]
    exact pvL_tvL es i h
  | .or es, i, h => by
    simp only [CE.pv] at h
    simp only [CE.tv]
    exact pvL_tvL es i h
  | .ite _ a b, i, h => by
    simp only [CE.pv] at h
    simp only [CE.tv]
    rcases List.mem_append.mp h with h | h
    · exact List.mem_append_left _ (pv_tv a i h)
    · exact List.mem_append_right _ (pv_tv b i h)
  | .cmp _ _ _, i, h => by simp [CE.pv] at h
  | .chain _ _ _ _ _, i, h => by simp [CE.pv] at h
  | .idx a _, i, h => by simpa [CE.pv, CE.tv] using h
  | .slc a _ _, i, h => by simpa [CE.pv, CE.tv] using h
  | .rev a, i, h => by simpa [CE.pv, CE.tv] using h
  | .call _ es, i, h => by simpa [CE.pv, CE.tv] using h
  | .bi _ es, i, h => by simpa [CE.pv, CE.tv] using h
  | .bit _ it, i, h => by simpa [CE.pv, CE.tv] using h
  | .isi _ _, i, h => by simp [CE.pv] at h
  | .sset _, i, h => by simp [CE.pv] at h
  | .lset _, i, h => by simp [CE.pv] at h
  | .meth _ o es, i, h => by simpa [CE.pv, CE.tv] using h
  | .comp gs elt, i, h => by simpa [CE.pv, CE.tv] using h
theorem pvL_tvL : ∀ (es : List CE) (i : Nat), i ∈ Ev.pvL es → i ∈ Ev.tvL es
  | [], i, h => by simp [Ev.pvL] at h
  | e :: es, i, h => by
    simp only [Ev.pvL] at h
    simp only [Ev.tvL]
    rcases List.mem_append.mp h with h | h
    · exact List.mem_append_left _ (pv_tv e i h)
    · exact List.mem_append_right _ (pvL_tvL es i h)
end
section
variable {X : Cx} {Z Z' : Sit} {H H' : Hp} {S S' : Store} {σ : L2.St} {env env' env1 : Ev.Env} {v : V} {d r : PV} {D : Ends} {f : Ev.Flow}
theorem seqE_bind : ∀ {is : List Nat} {l : List PV} {xs : List V} {Z : Sit} {σ : L2.St} {env env1 : Ev.Env} {Q : L2.St → Hp → Prop}, SS X Z σ H env S → Ev.bindSeqE is l env = .ok env1 → RzL X.w X.K Z.al H (Z.at []) xs l →
    (∀ Z' σ', SS X Z' σ' H env1 S → Since Z H Z' H → Q σ' H) → gSeq is xs σ H Q
  | [], [], [], Z, σ, env, env1, Q, h, e, _, q => by
    cases e
    exact ⟨rfl, q Z σ h (Since.refl _ _)⟩
  | i :: is, d :: l, x :: xs, Z, σ, env, env1, Q, h, e, .cons r rs, q => by
    refine ⟨x, xs, rfl, ?_⟩
    show gSeq is xs (σ.set i (some x)) H Q
    have h1 := h.setF i r
    exact seqE_bind h1 e (rs.mono fun a _ _ q => at_less (Z := Z) (Z' := Z.fz [i]) rfl rfl fz_less q) fun Z' σ' h' s' => q Z' σ' h' (fz_since.trans s')
  | [], _ :: _, _, Z, σ, env, env1, Q, h, e, _, q => by cases e
  | _ :: _, [], _, Z, σ, env, env1, Q, h, e, _, q => by cases e
theorem tgE_bind {t : Tgt} {x : V} {Q : L2.St → Hp → Prop} (h : SS X Z σ H env S) (e : Ev.bindE t d env = .ok env1) (rz : Rz X.w X.K Z.al H (Z.at []) x d) (q : ∀ Z' σ', SS X Z' σ' H env1 S → Since Z H Z' H → Q σ' H) : gT X.K t x σ H Q := by
  cases t with
  | nm i =>
    cases e
    exact q _ _ (h.setF i rz) fz_since
  | tp is =>
    cases d <;> first | (simp [Ev.bindE] at e; done) | skip
    rename_i l
    obtain ⟨a, xs, rfl, h1, h2⟩ := rz.tupE
    have hn : ∀ {is : List Nat} {l : List PV} {env : Ev.Env}, Ev.bindSeqE is l env = .ok env1 → is.length = l.length := fun {is} => by
      induction is with
      | nil =>
        intro l env e
        cases l with
        | nil => rfl
        | cons _ _ => cases e
      | cons i is ih =>
        intro l env e
        cases l with
        | nil => cases e
        | cons d l => simp [ih (show Ev.bindSeqE is l (env.set i (.fz d)) = .ok env1 from e)]
    exact ⟨a, xs, rfl, h1, by rw [h2.length, hn e], seqE_bind h e h2 q⟩
/-- a source of a walk, held still -/
def Held (Z Z1 : Sit) (p : Src) : Prop := p.r.imm = true ∨ ((∀ a, Z.at p.tv a → Z1.at [] a) ∧ ∀ a, Z.at p.pv a → Z1.at [] a)
theorem held_keeps {Z1 : Sit} {H1 : Hp} {p : Src} (al : Z1.al = Z.al) (ok : SrcOk X Z H1 p) (hd : Held Z Z1 p) (s : Since Z1 H1 Z' H') : Keeps X Z H1 H' (Z'.at []) p := by
  have far : ∀ a, Z1.at [] a → ¬ (a ∈ Z1.al ∨ ∃ i, Z1.O i = some a) := fun a h z => z.elim h.2.1 fun ⟨i, e⟩ => by cases h.2.2 i e
  refine ⟨fun a ea mu => ?_, fun u d hi rz => ?_⟩
  · have t := ok.rz
    rw [ea] at t
    have q := rz_top t mu
    rcases hd with hd | ⟨hd, _⟩
    · cases hr : p.r <;> rw [hr] at hd mu <;> first | (cases mu; done) | (simp [Ev.PV.imm] at hd; done)
    · cases e : H1 a with
      | none => exact absurd e (rt_some (by rw [← ea]; exact ok.rt) mu)
      | some o =>
        rcases s.ext a o e with z | z
        · exact z
        · exact absurd z.1 (far a (hd a q))
  · rcases hd with hd | ⟨_, hd⟩
    · exact rz.imm s.ext d (hi hd)
    · have r1 : Rz X.w X.K Z.al H1 (Z1.at []) u d := rz.mono fun a _ _ q => hd a q
      have r2 : Rz X.w X.K Z.al H' (fun a => Z1.at [] a ∧ H1 a ≠ none) u d := by
        have r3 : Rz X.w X.K Z.al H1 (fun a => Z1.at [] a ∧ H1 a ≠ none) u d := r1.mono fun a o e q => ⟨q, by rw [e]; exact fun z => nomatch z⟩
        exact r3.ext s.ext fun a q => far a q.1
      exact r2.mono fun a _ _ q => ⟨by rw [s.p]; exact q.1.1, fun m => (s.inAl m).elim q.1.2.1 q.2, fun i e => (s.own i a e).elim (fun ⟨j, z⟩ => (by cases q.1.2.2 j z)) fun z => absurd z q.2⟩
mutual
theorem rz_al {w : World} {K : PySem.W.Frag} {al al' : List Addr} {H : Hp} {P : Addr → Prop} (up : ∀ (n : Nat) (a : Addr), al[n]? = some a → al'[n]? = some a) : ∀ (d : PV) {v : V}, Rz w K al H P v d → Rz w K al' H P v d
  | .non, _, h => by cases h; exact .non
  | .bl b, _, h => by cases h; exact .bl b
  | .int i, _, h => by cases h; exact .int i
  | .str s, _, h => by cases h with | str _ hs => exact .str s hs
  | .tup ds, _, h => by
    cases h with
    | tup h1 h2 => exact .tup h1 (rzl_al up ds h2)
  | .lst ds, _, h => by
    cases h with
    | lst h1 hp h2 => exact .lst h1 hp (rzl_al up ds h2)
  | .dct ds, _, h => by
    cases h with
    | dct h1 hp h2 => exact .dct h1 hp (rzd_al up ds h2)
  | .cel n, _, h => by cases h with
    | cel h1 => exact .cel (up _ _ h1)
  | .scr ns, _, h => by cases h with
    | scr h1 => exact .scr h1
theorem rzl_al {w : World} {K : PySem.W.Frag} {al al' : List Addr} {H : Hp} {P : Addr → Prop} (up : ∀ (n : Nat) (a : Addr), al[n]? = some a → al'[n]? = some a) : ∀ (ds : List PV) {vs : List V}, RzL w K al H P vs ds → RzL w K al' H P vs ds
  | [], _, h => by cases h; exact .nil
  | d :: ds, _, h => by
    cases h with
    | cons h1 h2 => exact .cons (rz_al up d h1) (rzl_al up ds h2)
theorem rzd_al {w : World} {K : PySem.W.Frag} {al al' : List Addr} {H : Hp} {P : Addr → Prop} (up : ∀ (n : Nat) (a : Addr), al[n]? = some a → al'[n]? = some a) : ∀ (ds : List (PV × PV)) {es : List Ent}, RzD w K al H P es ds → RzD w K al' H P es ds
  | [], _, h => by cases h; exact .nil
  | (k, v) :: ds, _, h => by
    cases h with
    | cons h1 h2 h3 h4 h5 h6 => exact .cons h1 h2 h3 (rz_al up k h4) (rz_al up v h5) (rzd_al up ds h6)
end
theorem Since.up (s : Since Z H Z' H') : ∀ (n : Nat) (a : Addr), Z.al[n]? = some a → Z'.al[n]? = some a := fun n a e => by
  rcases s.al with z | z
  · rw [z.1]
    exact e
  · rw [z.1] at e
    cases e
variable {cf : CallF} {gl : Nat → Option PV} {W : Nat}
/-- what a for walks, with its slots held still -/
theorem evF_held {it : IT} {l : List PV} {env2 : Ev.Env} {J : It} {H1 : Hp} {ps : List Src} (h : SS X Z σ H env S) (e : Ev.evF cf gl env it S = .ok (l, env2, S')) (hI : ∀ S1 l', Ev.evI cf gl (Ev.vals env) it S = .ok (l', S1) → l' = l → S1 = S' → PostI X cf gl Z (Ev.vals env) S H it l S' J H1 ps) (hi : ∀ e, it ≠ .items e) :
    ∃ Z1, SS X Z1 σ H1 env2 S' ∧ Since Z H Z1 H1 ∧ Z1.al = Z.al ∧ (∀ p ∈ ps, SrcOk X Z H1 p ∧ Held Z Z1 p) ∧ Feeds X Z H1 ps l J := by
  cases it with
  | items ce => exact absurd rfl (hi ce)
  | rng es =>
    simp only [Ev.evF] at e
    obtain ⟨l', S1, e1, e⟩ := bindP e
    dsimp only at e
    cases e
    have p := hI _ _ e1 rfl rfl
    cases (show ps = [] from p.val)
    exact ⟨Z, h.xt p.xt p.st, Since.xt p.xt p.st, rfl, fun p m => (by cases m), p.feeds⟩
  | val ce =>
    simp only [Ev.evF] at e
    obtain ⟨x, S1, e1, e⟩ := bindP e
    dsimp only at e
    obtain ⟨l', e2, e⟩ := Res.bind_eq_ok e
    cases e
    have ei : Ev.evI cf gl (Ev.vals env) (.val ce) S = .ok (l, S') := by
      simp only [Ev.evI, e1, Res.ok_bind, e2]
    have p := hI _ _ ei rfl rfl
    obtain ⟨v, x', rfl, e3⟩ := p.val
    rw [e1] at e3
    cases e3
    have h1 := h.xt p.xt p.st
    have ok := p.ok _ List.mem_cons_self
    have s1 : Since Z H Z H1 := Since.xt p.xt p.st
    unfold Ev.dem
    cases q : x.imm with
    | true =>
      rw [if_pos rfl]
      refine ⟨Z, h1, s1, rfl, fun p m => ?_, p.feeds⟩
      rw [List.mem_singleton.mp m]
      exact ⟨ok, .inl q⟩
    | false =>
      rw [if_neg Bool.false_ne_true]
      refine ⟨Z.fz ce.tv, h1.fz _, s1.trans fz_since, rfl, fun p m => ?_, p.feeds⟩
      rw [List.mem_singleton.mp m]
      exact ⟨ok, .inr ⟨fun a q => fz_at q, fun a q => fz_at (Sit.sub q fun i m => pv_tv ce i m)⟩⟩
  | zip ca cb =>
    simp only [Ev.evF] at e
    obtain ⟨x, S1, e1, e⟩ := bindP e
    dsimp only at e
    obtain ⟨y, S2, e2, e⟩ := bindP e
    dsimp only at e
    obtain ⟨l1, e3, e⟩ := Res.bind_eq_ok e
    obtain ⟨l2, e4, e⟩ := Res.bind_eq_ok e
    cases e
    have ei : Ev.evI cf gl (Ev.vals env) (.zip ca cb) S = .ok (Ev.zipL l1 l2, S') := by
      simp only [Ev.evI, e1, Res.ok_bind, e2, e3, e4]
    have p := hI _ _ ei rfl rfl
    obtain ⟨v, x', u, y', S3, rfl, e5, e6⟩ := p.val
    rw [e1] at e5
    cases e5
    rw [e2] at e6
    cases e6
    have h1 := h.xt p.xt p.st
    have ok1 := p.ok _ List.mem_cons_self
    have ok2 := p.ok _ (List.mem_cons_of_mem _ List.mem_cons_self)
    have s1 : Since Z H Z H1 := Since.xt p.xt p.st
    have main : ∀ (is js : List Nat), (x.imm = true ∨ is = ca.tv) → (y.imm = true ∨ js = cb.tv) → ∃ Z1, SS X Z1 σ H1 (Ev.demote (Ev.demote env is) js) S' ∧ Since Z H Z1 H1 ∧ Z1.al = Z.al ∧ (∀ p ∈ [⟨v, x, ca.tv, ca.pv⟩, ⟨u, y, cb.tv, cb.pv⟩], SrcOk X Z H1 p ∧ Held Z Z1 p) := fun is js hx hy => by
      refine ⟨(Z.fz is).fz js, (h1.fz is).fz js, s1.trans (fz_since.trans fz_since), rfl, fun p m => ?_⟩
      have up1 : ∀ a ks, ks ⊆ is → Z.at ks a → ((Z.fz is).fz js).at [] a := fun a ks hk q => at_less (Z := Z.fz is) (Z' := (Z.fz is).fz js) rfl rfl fz_less (fz_at (Sit.sub q hk))
      have up2 : ∀ a ks, ks ⊆ js → Z.at ks a → ((Z.fz is).fz js).at [] a := fun a ks hk q => fz_at (Sit.sub (at_less (Z := Z) (Z' := Z.fz is) rfl rfl fz_less q) hk)
      rcases List.mem_cons.mp m with rfl | m
      · refine ⟨ok1, hx.elim .inl fun e => .inr ⟨fun a q => up1 a _ (by rw [e]; exact fun i m => m) q, fun a q => up1 a _ (by rw [e]; exact fun i m => pv_tv ca i m) q⟩⟩
      · rw [List.mem_singleton.mp m]
        refine ⟨ok2, hy.elim .inl fun e => .inr ⟨fun a q => up2 a _ (by rw [e]; exact fun i m => m) q, fun a q => up2 a _ (by rw [e]; exact fun i m => pv_tv cb i m) q⟩⟩
    have d0 : ∀ env : Ev.Env, Ev.demote env [] = env := fun env => by
      apply List.ext_getElem?
      intro i
      rw [dem_get]
      cases env[i]? <;> simp
    have fin : ∃ is js, (x.imm = true ∨ is = ca.tv) ∧ (y.imm = true ∨ js = cb.tv) ∧ Ev.dem y (Ev.dem x env ca.tv) cb.tv = Ev.demote (Ev.demote env is) js := by
      unfold Ev.dem
      cases qx : x.imm <;> cases qy : y.imm
      · exact ⟨ca.tv, cb.tv, .inr rfl, .inr rfl, rfl⟩
      · exact ⟨ca.tv, [], .inr rfl, .inl rfl, (d0 _).symm⟩
      · exact ⟨[], cb.tv, .inl rfl, .inr rfl, by rw [d0] <;> rfl⟩
      · exact ⟨[], [], .inl rfl, .inl rfl, by rw [d0, d0] <;> rfl⟩
    obtain ⟨is, js, k1, k2, k3⟩ := fin
    rw [k3]
    obtain ⟨Z1, a1, a2, a3, a4⟩ := main is js k1 k2
    exact ⟨Z1, a1, a2, a3, a4, p.feeds⟩
theorem evF_evI {it : IT} {l : List PV} {env2 : Ev.Env} (e : Ev.evF cf gl env it S = .ok (l, env2, S')) : Ev.evI cf gl (Ev.vals env) it S = .ok (l, S') := by
  cases it with
  | rng es =>
    simp only [Ev.evF] at e
    obtain ⟨l', S1, e1, e⟩ := bindP e
    dsimp only at e
    cases e
    exact e1
  | val ce =>
    simp only [Ev.evF] at e
    obtain ⟨x, S1, e1, e⟩ := bindP e
    dsimp only at e
    obtain ⟨l', e2, e⟩ := Res.bind_eq_ok e
    cases e
    simp only [Ev.evI, e1, Res.ok_bind, e2]
  | zip ca cb =>
    simp only [Ev.evF] at e
    obtain ⟨x, S1, e1, e⟩ := bindP e
    dsimp only at e
    obtain ⟨y, S2, e2, e⟩ := bindP e
    dsimp only at e
    obtain ⟨l1, e3, e⟩ := Res.bind_eq_ok e
    obtain ⟨l2, e4, e⟩ := Res.bind_eq_ok e
    cases e
    simp only [Ev.evI, e1, Res.ok_bind, e2, e3, e4]
  | items ce =>
    simp only [Ev.evF] at e
    obtain ⟨x, S1, e1, e⟩ := bindP e
    dsimp only at e
    cases x <;> first | (cases e; done) | skip
    cases e
    simp only [Ev.evI, e1, Res.ok_bind]
theorem cs_for {tg iter : Expr} {body : List Stmt} {pos : Pos} {t : Tgt} {it : IT} {cb : List CS} (hp : PassesOwn (model X.prog X.w) X.A X.env X.xe) (hc : X.calm = true) (hi : PI X tg iter (tIt X cf gl it)) (hni : ∀ e, it ≠ .items e) (hg : PG X tg (gT X.K t)) (hb : PSs X body (tBl X cf gl W cb))
    (hs : ∀ x, foldedSetIterable iter X.env x = pure x) : PS X (.For tg iter body [] pos) (tSt X cf gl W (.for t it cb)) := PS_to (ps_for hp hc hi hg hb hs) fun D σ H ⟨Z, env, S, f, env', S', e, h, q⟩ => by
  simp only [Ev.evS] at e
  obtain ⟨⟨l, env2, S1⟩, e1, e⟩ := Res.bind_eq_ok e
  dsimp only at e
  refine ⟨Z, Ev.vals env, S, l, S1, evF_evI e1, h.st, h.eo, fun J H1 ps p => ?_⟩
  obtain ⟨Z1, h1, s1, al1, hd, feeds⟩ := evF_held (J := J) (H1 := H1) (ps := ps) h e1 (fun _ _ _ _ _ => p) hni
  refine ⟨fun i m σ2 H2 => m = l.length - i ∧ i ≤ l.length ∧ ∃ Z2 env3 S3, Ev.forL t (fun env2 S2 => Ev.evB cf gl W env2 cb S2) (l.drop i) env3 S3 = .ok (f, env', S') ∧ SS X Z2 σ2 H2 env3 S3 ∧ Since Z1 H1 Z2 H2, ⟨l.length, rfl, Nat.zero_le _, Z1, env2, S1, e, h1, Since.refl _ _⟩, ?_⟩
  rintro i m σ2 H2 ⟨rfl, hi', Z2, env3, S3, e3, h2, s2⟩
  obtain ⟨f1, f2⟩ := feeds H2 (Z2.at []) (fun p m => held_keeps al1 (hd p m).1 (hd p m).2 s2) fun b xs q => sqT_ext s2.ext q
  by_cases lt : i < l.length
  · refine .inr ?_
    obtain ⟨j1, j2⟩ := f2 i _ (List.getElem?_eq_getElem lt)
    rw [List.drop_eq_getElem_cons lt] at e3
    simp only [Ev.forL] at e3
    obtain ⟨env4, e4, e3⟩ := Res.bind_eq_ok e3
    obtain ⟨⟨f5, env5, S5⟩, e5, e3⟩ := Res.bind_eq_ok e3
    dsimp only at e3
    refine ⟨j1, fun σ' H' => ∃ Z3, Ev.forL t (fun env2 S2 => Ev.evB cf gl W env2 cb S2) (l.drop (i + 1)) env5 S5 = .ok (f, env', S') ∧ SS X Z3 σ' H' env5 S5 ∧ Since Z1 H1 Z3 H', fun σ' H' ⟨Z3, k1, k2, k3⟩ => ⟨l.length - (i + 1), by omega, rfl, lt, Z3, env5, S5, k1, k2, k3⟩, fun x Hy hy => ?_⟩
    obtain ⟨sy, ry⟩ := j2 x Hy hy
    have hy' := h2.xt (Ext.same sy) (h2.st.same sy)
    have sy' : Since Z1 H1 Z2 Hy := s2.trans (Since.xt (X := X) (Ext.same sy) (h2.st.same sy))
    have ry' : Rz X.w X.K Z2.al Hy (Z2.at []) x l[i] := rz_al (fun n a e => s2.up n a (by rw [al1]; exact e)) _ ry
    refine tgE_bind hy' e4 ry' fun Z3 σ3 h3 s3 => ⟨Z3, env4, S3, f5, env5, S5, e5, h3, ?_⟩
    have s13 := sy'.trans s3
    have s03 := s1.trans s13
    cases f5 with
    | nx => exact fun Z4 σ4 H4 k1 k2 => ⟨Z4, e3, k1, s13.trans k2⟩
    | cont => exact fun Z4 σ4 H4 k1 k2 => ⟨Z4, e3, k1, s13.trans k2⟩
    | brk =>
      cases e3
      exact fun Z4 σ4 H4 k1 k2 => q Z4 σ4 H4 k1 (s03.trans k2)
    | ret v =>
      cases e3
      exact fun Z4 σ4 H4 x k1 k2 => q Z4 σ4 H4 x k1 (s03.trans k2)
  · have : i = l.length := by omega
    subst this
    rw [List.drop_length] at e3
    cases e3
    exact .inl ⟨f1 _ (Nat.le_refl _), q Z2 σ2 H2 h2 (s1.trans s2)⟩
end
end EvB
end

section
set_option autoImplicit false
set_option Elab.async false
set_option linter.all false
set_option maxRecDepth 100000
set_option maxHeartbeats 1000000
/-! own objects are changed by methods -/
namespace EvB
open PySem PySem.Spec PyProof.Rows L2
open Ev (PV Store Res EnvV CallF CE CS IT Tgt)
def mutT : Ev.Mut → String
  | .append => "list" | .extend => "list" | .update => "dict" | .pop => "dict" | .remove => "list"
def mutN : Ev.Mut → Str
  | .append => "append" | .extend => "extend" | .update => "update" | .pop => "pop" | .remove => "remove"
def mutI : Ev.Mut → String
  | .append => "list.append" | .extend => "list.extend" | .update => "dict.update" | .pop => "dict.pop" | .remove => "list.remove"
section
variable {X : Cx} {al : List Addr} {P : Addr → Prop}
def rMut (X : Cx) (al : List Addr) (P : Addr → Prop) (m : Ev.Mut) : V → List V → Hp → VK → Prop := fun x xs H Q => ∃ a d v r y, x = .ref a ∧ xs = [y] ∧ Rt X.w X.K al H P (.ref a) d ∧ Rt X.w X.K al H P y v ∧ (m = .append → Rz X.w X.K al H P y v) ∧ Ev.mutE m d v = .ok r ∧ (m = .update → y ≠ .ref a) ∧ (∀ b, P b → b ≠ a) ∧
  ∀ z o', Rt X.w X.K al (upd H a o') P (.ref a) r → Q z (upd H a o')
theorem line_le {n : Nat} (h : n ≤ Ev.line) : n ≤ sizeLine := Nat.le_trans h (by decide)
theorem line_lt {n : Nat} (h : n < Ev.line) : n < sizeLine := Nat.lt_of_lt_of_le h (by decide)
theorem mutE_cases {m : Ev.Mut} {d v r : PV} (h : Ev.mutE m d v = .ok r) :
    (m = .append ∧ ∃ l, d = .lst l ∧ l.length < Ev.line ∧ r = .lst (l ++ [v])) ∨ (m = .extend ∧ ∃ l k, d = .lst l ∧ v = .lst k ∧ (l ++ k).length ≤ Ev.line ∧ r = .lst (l ++ k)) ∨
    (m = .update ∧ ∃ l k, d = .dct l ∧ v = .dct k ∧ l.length + k.length < Ev.line ∧ (l.all fun kv => kv.1.isMix) = true ∧ (k.all fun kv => kv.1.isMix) = true ∧ r = .dct (Ev.dUpd l k)) ∨
    (m = .pop ∧ ∃ l w, d = .dct l ∧ v.isKey = true ∧ Ev.dGet l v = some w ∧ r = .dct (Ev.dDel l v)) := by
  cases m with
  | append =>
    cases d <;> first | (simp [Ev.mutE] at h; done) | skip
    obtain ⟨f, h⟩ := need_bind h
    cases h
    exact .inl ⟨rfl, _, rfl, of_decide_eq_true f, rfl⟩
  | extend =>
    cases d <;> first | (simp [Ev.mutE] at h; done) | skip
    cases v <;> first | (simp [Ev.mutE] at h; done) | skip
    obtain ⟨f, h⟩ := need_bind h
    cases h
    exact .inr (.inl ⟨rfl, _, _, rfl, rfl, of_decide_eq_true f, rfl⟩)
  | update =>
    cases d <;> first | (simp [Ev.mutE] at h; done) | skip
    cases v <;> first | (simp [Ev.mutE] at h; done) | skip
    obtain ⟨f, h⟩ := need_bind h
    cases h
    simp only [Bool.and_eq_true, decide_eq_true_eq] at f
    exact .inr (.inr (.inl ⟨rfl, _, _, rfl, rfl, f.1.1, f.1.2, f.2, rfl⟩))
  | pop =>
    cases d <;> first | (simp [Ev.mutE] at h; done) | skip
    obtain ⟨f, h⟩ := need_bind h
    obtain ⟨w, g, h⟩ := Res.bind_eq_ok h
    cases h
    exact .inr (.inr (.inr ⟨rfl, _, w, rfl, f, ofOpt_ok g, rfl⟩))
  | remove => cases d <;> simp [Ev.mutE] at h
theorem m_mut (hu : X.A.units + 64 < cLine) (m : Ev.Mut) : MtR X (mutI m) (rMut X al P m) := by
  intro pins s σ H x xs v us Q I rx rs h
  obtain ⟨a, d, w, r, y, rfl, rfl, hd, hy, hy2, e, ne, hP, q⟩ := h
  have off : ∀ (o' : HO) (o0 : HO), H a = some o0 → Mut (some o0) → Ext (fun b => b = a) H (upd H a o') := fun o' o0 h mu => Ext.put h mu rfl
  rcases mutE_cases e with ⟨rfl, l, rfl, lt, rfl⟩ | ⟨rfl, l, k, rfl, rfl, lt, rfl⟩ | ⟨rfl, l, k, rfl, rfl, lt, f1, f2, rfl⟩ | ⟨rfl, l, u, rfl, f1, g, rfl⟩
  · obtain ⟨b, ys, e1, h1, h2⟩ := hd.list
    cases e1
    refine mt_append pins s σ H (.ref a) [y] v us Q I rx rs ⟨a, ys, y, rfl, rfl, h1, by rw [h2.length]; exact line_lt lt, q _ _ (.lst upd_same ?_)⟩
    exact (h2.ext (off _ _ h1 trivial) hP).append (.cons ((hy2 rfl).ext (off _ _ h1 trivial) hP) .nil)
  · obtain ⟨b, ys, e1, h1, h2⟩ := hd.list
    cases e1
    obtain ⟨b2, zs, e2, h3, h4⟩ := hy.list
    subst e2
    refine mt_extend pins s σ H (.ref a) [.ref b2] v us Q I rx rs ⟨a, b2, ys, zs, rfl, rfl, h1, h3, ?_, q _ _ (.lst upd_same ?_)⟩
    · rw [h2.length, h4.length]
      rw [List.length_append] at lt
      exact line_le lt
    · exact (h2.ext (off _ _ h1 trivial) hP).append (h4.ext (off _ _ h1 trivial) hP)
  · obtain ⟨b, ep, es, e1, h1, h2⟩ := hd.dict
    cases e1
    obtain ⟨b2, eq, fs, e2, h3, h4⟩ := hy.dict
    subst e2
    refine mt_update pins s σ H (.ref a) [.ref b2] v us Q I rx rs ⟨a, b2, ep, eq, es, fs, l, k, rfl, rfl, fun z => ne rfl (by rw [z]), h1, h2, h3, h4, lt, f1, f2, fun ep' es' h5 => q _ _ (.dct upd_same ?_)⟩
    exact h5.ext (off _ _ h1 trivial) hP
  · obtain ⟨b, ep, es, e1, h1, h2⟩ := hd.dict
    cases e1
    refine mt_popD hu pins s σ H (.ref a) [y] v us Q I rx rs ⟨a, ep, es, l, w, y, u, rfl, rfl, h1, h2, f1, hy.isKey f1, g, fun z ep' _ => q _ _ (.dct upd_same ?_)⟩
    have nd : (es.map (·.1)).Nodup := (I.hok a _ h1).1.2.2.1
    exact (rzd_del (isKey_and f1).1 h2 nd).ext (off _ _ h1 trivial) hP
def tMutM (X : Cx) (T : String) (r : V → List V → Hp → VK → Prop) (to te : TE) : TE := fun σ H Q => to σ H fun x H1 => (∀ (pins : List (Addr × Obj)) (s : Shared) (v : Value), Inv X pins σ H1 s → RelV x v → s.TypeIs v T ∧ ∀ p, v = .ref p → ∃ ob, s.heap.get? p = some ob ∧ ob.dict = none) ∧
  te σ H1 fun y H2 => r x [y] H2 Q
theorem pe_mutm {T : String} {name : Str} {id : String} {r : V → List V → Hp → VK → Prop} {o e : Expr} {to te : TE} {apos cpos : Pos} (pa : PlainAttrs T) (slot : Slot T name id) (hty : typeOf (.builtin id) = pure (.type "method_descriptor")) (hm : MtR X id r) (ho : PE X o to) (he : PE X e te)
    (h0 : notCall0 o = true) (hs : notStar e = true) (hline : (apos.endLine == cpos.line) = true) : PE X (.Call (.Attribute o name apos) [e] [] cpos) (tMutM X T r to te) := by
  refine ⟨fun pins s σ H Q I h => ?_⟩
  have few : ((backTo cpos (starEach [e] X.env)).all (fun x => !x.1) && (backToKw cpos (keywordEach [] X.env)).all (fun x => x.1.isSome) && decide ([e].length + ([] : List Keyword).length + (if ([] : List Keyword).isEmpty then 0 else 1) < 30)) = true := by
    rw [allplain (by simpa using hs), kplain]
    rfl
  refine wpAny_Call_method_late (baseOk h0) few hline rfl (thn (ho.run pins s σ H _ I h) fun v s1 ⟨x, H1, I1, r1, ty, q1⟩ => ?_)
  obtain ⟨t1, t2⟩ := ty pins s1 v I1 r1
  refine ⟨T, id, pa, slot, hty, t1, t2, ?_⟩
  have hA := (pa_one he hs).run cpos pins s1 σ H1 (fun ys H2 => r x ys H2 Q) I1 q1
  rw [starEach_cons hs] at hA ⊢
  refine Calls.callWith_builtin rfl (Calls.evalArgs_plain ?_)
  exact thn hA fun us s2 ⟨vs, H2, I2, r2, q2⟩ => hm pins s2 σ H2 x vs v us Q I2 r1 r2 q2
end
section
variable {X : Cx} {Z Z' : Sit} {H H' : Hp} {S S' : Store} {σ : L2.St} {env env' env1 : Ev.Env} {v : V} {d r : PV} {D : Ends} {f : Ev.Flow}
theorem rzd_imm {w : World} {K : PySem.W.Frag} {al : List Addr} {C P P' : Addr → Prop} (e : Ext C H H') : ∀ {es : List Ent} (ds : List (PV × PV)), (∀ k v, (k, v) ∈ ds → k.imm = true ∧ v.imm = true) → RzD w K al H P es ds → RzD w K al H' P' es ds
  | _, [], _, h => by cases h; exact .nil
  | _, (k, v) :: ds, q, h => by
    cases h with
    | cons h1 h2 h3 h4 h5 h6 => exact .cons h1 h2 h3 (h4.imm e k (q k v List.mem_cons_self).1) (h5.imm e v (q k v List.mem_cons_self).2) (rzd_imm e ds (fun a b m => q a b (List.mem_cons_of_mem _ m)) h6)
theorem rt_rz {w : World} {K : PySem.W.Frag} {al : List Addr} {P P' : Addr → Prop} (h : Rt w K al H P v d) (hp : ∀ a, v = .ref a → d.isMut = true → P' a) (sub : ∀ a, P a → P' a) : Rz w K al H P' v d := by
  cases h with
  | of h => exact h.mono fun a _ _ q => sub a q
  | lst h1 h2 => exact .lst h1 (hp _ rfl rfl) (h2.mono fun a _ _ q => sub a q)
  | dct h1 h2 => exact .dct h1 (hp _ rfl rfl) (h2.mono fun a _ _ q => sub a q)
/-- an own object is written -/
theorem SS.write {x : Nat} {a : Addr} {o o' : HO} (h : SS X Z σ H env S) (he : env[x]? = some (.ow d)) (hO : Z.O x = some a) (hH : H a = some o) (mu : Mut (some o)) (m : r.isMut = true) (new : Rt X.w X.K Z.al (upd H a o') (Z.at []) (.ref a) r) :
    SS X Z σ (upd H a o') (env.set x (.ow r)) S ∧ Since Z H Z (upd H a o') := by
  have e0 : Ext (fun b => b = a) H (upd H a o') := Ext.put hH mu rfl
  have off : ∀ is b, x ∉ is → Z.at is b → ¬ b = a := fun is b hx q z => hx (q.2.2 x (by rw [z]; exact hO))
  have na : a ∉ Z.al := (h.st.own x a hO).2
  have live : ∀ b, H b ≠ none → upd H a o' b ≠ none := fun b q z => by
    by_cases e : b = a
    · rw [e, upd_same] at z
      cases z
    · rw [upd_ne e] at z
      exact q z
  have lt : x < env.length := (List.getElem?_eq_some_iff.mp he).1
  obtain ⟨a', k1, k2, k3⟩ := h.own x d he
  rw [hO] at k1
  cases k1
  have pa : Z.at [x] a := by
    have hv : (Ev.vals env)[x]? = some (some d) := by rw [vals_get, he]; rfl
    obtain ⟨u, q1, q2, q3⟩ := h.eo.get x d hv
    rw [k2] at q1
    cases q1
    exact rz_top q2 k3
  refine ⟨⟨by rw [List.length_set]; exact h.wide, ⟨h.st.len, h.st.nod, fun b q => h.st.fr b ?_, fun n b e => ?_, fun b c => ⟨live b (h.st.csub b c).1, (h.st.csub b c).2⟩, fun i b e => ⟨live b (h.st.own i b e).1, (h.st.own i b e).2⟩⟩, ?_, fun i u e => ?_, fun i b e => ?_, h.inj⟩, rfl, live, e0.mono fun b q => .inr ⟨x, by rw [q]; exact hO⟩, fun i b e => .inl ⟨i, e⟩, .inl ⟨rfl, rfl⟩⟩
  · cases k : H b with
    | none => rfl
    | some z => exact absurd q (live b (by rw [k]; exact fun z => nomatch z))
  · obtain ⟨u, q1, q2, q3⟩ := h.st.cel n b e
    exact ⟨u, q1, q2, q3.ext e0 (fun c hc => off [] c (by simp) (h.st.csub c hc).2) fun c ec => .inl fun z => na (by cases ec; rw [← z]; exact List.mem_of_getElem? e)⟩
  · rw [vals_set]
    have lv : x < (Ev.vals env).length := by rw [vals_len]; exact lt
    refine ⟨by rw [List.length_set]; exact h.eo.len, fun i u e => ?_⟩
    by_cases q : x = i
    · subst q
      rw [List.getElem?_set_self lv] at e
      cases e
      exact ⟨.ref a, k2, rt_rz new (fun b eb _ => by cases eb; exact pa) fun b z => Sit.sub z fun _ m => (by cases m), new⟩
    · rw [List.getElem?_set_ne q] at e
      obtain ⟨y, q1, q2, q3⟩ := h.eo.get i u e
      have o1 : ∀ b, Z.at [i] b → ¬ b = a := fun b => off [i] b (by simpa using q)
      refine ⟨y, q1, q2.ext e0 o1, q3.ext e0 (fun b => off [] b (by simp)) fun b eb => ?_⟩
      cases mu2 : u.isMut with
      | false => exact .inr rfl
      | true =>
        subst eb
        exact .inl (o1 b (rz_top q2 mu2))
  · by_cases q : x = i
    · subst q
      rw [List.getElem?_set_self lt] at e
      cases e
      exact ⟨a, hO, k2, m⟩
    · rw [List.getElem?_set_ne q] at e
      exact h.own i u e
  · by_cases q : x = i
    · subst q
      exact ⟨r, List.getElem?_set_self lt⟩
    · rw [List.getElem?_set_ne q]
      exact h.only i b e
theorem modOwn_ok {x : Nat} {g : PV → Res PV} (h : Ev.modOwn env x g = .ok env1) : ∃ d r, env[x]? = some (.ow d) ∧ g d = .ok r ∧ env1 = env.set x (.ow r) := by
  unfold Ev.modOwn at h
  split at h
  · rename_i d hd
    obtain ⟨r, h1, h⟩ := Res.bind_eq_ok h
    cases h
    exact ⟨d, r, hd, h1, rfl⟩
  · cases h
/-- the object of an own slot -/
theorem SS.obj {x : Nat} (h : SS X Z σ H env S) (he : env[x]? = some (.ow d)) : ∃ a, Z.O x = some a ∧ σ[x]? = some (some (.ref a)) ∧ d.isMut = true ∧ Rt X.w X.K Z.al H (Z.at []) (.ref a) d ∧ ∃ o, H a = some o ∧ Mut (some o) := by
  obtain ⟨a, k1, k2, k3⟩ := h.own x d he
  have hv : (Ev.vals env)[x]? = some (some d) := by rw [vals_get, he]; rfl
  obtain ⟨u, q1, q2, q3⟩ := h.eo.get x d hv
  rw [k2] at q1
  cases q1
  refine ⟨a, k1, k2, k3, q3, ?_⟩
  cases d <;> first | (cases k3; done) | skip
  · obtain ⟨b, xs, e, h1, _⟩ := q3.list
    cases e
    exact ⟨_, h1, trivial⟩
  · obtain ⟨b, ep, es, e, h1, _⟩ := q3.dict
    cases e
    exact ⟨_, h1, trivial⟩
/-- the slots' own objects are let out, but where b -/
def Sit.dm (Z : Sit) (b : Bool) (is : List Nat) : Sit := if b then Z else Z.fz is
theorem dm_P (b : Bool) (is : List Nat) : (Z.dm b is).P = Z.P := by cases b <;> rfl
theorem dm_al (b : Bool) (is : List Nat) : (Z.dm b is).al = Z.al := by cases b <;> rfl
theorem dm_C (b : Bool) (is : List Nat) : (Z.dm b is).C = Z.C := by cases b <;> rfl
theorem dm_less {b : Bool} {is : List Nat} : ∀ i a, (Z.dm b is).O i = some a → Z.O i = some a := by
  cases b
  · exact fz_less
  · exact fun _ _ h => h
theorem dm_since (b : Bool) (is : List Nat) : Since Z H (Z.dm b is) H := Since.less (dm_P b is) (dm_al b is) (dm_C b is) dm_less
theorem SS.dm (h : SS X Z σ H env S) (b : Bool) (is : List Nat) : SS X (Z.dm b is) σ H (if b then env else Ev.demote env is) S := by
  cases b
  · exact h.fz is
  · exact h
theorem dm_rz {is : List Nat} (rz : Rz X.w X.K Z.al H (Z.at is) v r) : Rz X.w X.K Z.al H ((Z.dm r.imm is).at []) v r := by
  cases q : r.imm with
  | true => exact rz.imm (Ext.refl (fun _ => False) H) r q
  | false => exact rz.mono fun a _ _ q => fz_at q
/-- a value's parts are let out of the slots' own objects -/
theorem dm_rt {is : List Nat} (rt : Rt X.w X.K Z.al H (Z.at is) v r) : Rt X.w X.K Z.al H ((Z.dm r.partsImm is).at []) v r := by
  cases q : r.partsImm with
  | true =>
    have e0 : Ext (fun _ => False) H H := Ext.refl _ H
    cases rt with
    | lst h1 h2 => exact .lst h1 (h2.imm e0 _ (by simpa [Ev.PV.partsImm] using q))
    | dct h1 h2 => exact .dct h1 (rzd_imm e0 _ (by simpa [Ev.PV.partsImm] using q) h2)
    | of h0 =>
      cases r with
      | lst l =>
        cases h0 with
        | lst h1 _ h2 => exact .lst h1 (h2.imm e0 _ (by simpa [Ev.PV.partsImm] using q))
      | dct l =>
        cases h0 with
        | dct h1 _ h2 => exact .dct h1 (rzd_imm e0 _ (by simpa [Ev.PV.partsImm] using q) h2)
      | tup l => exact .of (h0.imm e0 _ (by simpa [Ev.PV.partsImm, Ev.PV.imm] using q))
      | cel n => simp [Ev.PV.partsImm] at q
      | _ => exact .of (h0.imm e0 _ rfl)
  | false => exact rt.mono fun a _ _ q => fz_at q
variable {cf : CallF} {gl : Nat → Option PV} {W : Nat}
theorem dem_own {is : List Nat} {x : Nat} (h : (Ev.dem r env is)[x]? = some (.ow d)) : env[x]? = some (.ow d) := by
  unfold Ev.dem at h
  split at h
  · exact h
  · exact (dem_ow.mp h).1
/-- what leaves the slots' own objects by a method -/
def mutDm (m : Ev.Mut) (Z : Sit) (ce : CE) (w : PV) : Sit := match m with
  | .append => Z.dm w.imm ce.tv
  | _ => Z.dm w.partsImm ce.pv
def mutEnv (m : Ev.Mut) (env : Ev.Env) (ce : CE) (w : PV) : Ev.Env := match m with
  | .append => Ev.dem w env ce.tv
  | _ => if w.partsImm then env else Ev.demote env ce.pv
theorem mutDm_is (m : Ev.Mut) (Z : Sit) (ce : CE) (w : PV) : ∃ b is, mutDm m Z ce w = Z.dm b is ∧ ∀ env, mutEnv m env ce w = if b then env else Ev.demote env is := by
  cases m
  · exact ⟨w.imm, ce.tv, rfl, fun _ => rfl⟩
  all_goals exact ⟨w.partsImm, ce.pv, rfl, fun _ => rfl⟩
theorem cs_mut {m : Ev.Mut} {x : Nat} {nm : Str} {p apos cpos spos : Pos} {e : Expr} {ce : CE} (hu : X.A.units + 64 < cLine) (pa : PlainAttrs (mutT m)) (slot : Slot (mutT m) (mutN m) (mutI m)) (hty : typeOf (.builtin (mutI m)) = pure (.type "method_descriptor")) (hx : PE X (.Name nm p) (tVar x)) (he : PE X e (tEv X cf gl ce)) (hs : notStar e = true) (hline : (apos.endLine == cpos.line) = true)
    (hup : m = .update → x ∉ ce.tv) : PS X (.Expr (.Call (.Attribute (.Name nm p) (mutN m) apos) [e] [] cpos) spos) (tSt X cf gl W (.mut m x ce)) := by
  refine ⟨fun pins s σ H D I ⟨Z, env, S, f, env', S', ee, h, q⟩ => ?_⟩
  simp only [Ev.evS] at ee
  obtain ⟨w, S1, e1, ee⟩ := bindP ee
  dsimp only at ee
  obtain ⟨env1, e2, ee⟩ := Res.bind_eq_ok ee
  cases ee
  obtain ⟨d, r, k1, k2, rfl⟩ := modOwn_ok e2
  have k1 : (mutEnv m env ce w)[x]? = some (.ow d) := k1
  obtain ⟨b, is, hZ, hE⟩ := mutDm_is m Z ce w
  rw [hE] at k1
  have k0 : env[x]? = some (.ow d) := by
    cases b
    · exact (dem_ow.mp k1).1
    · exact k1
  obtain ⟨a, o1, o2, o3, o4, o, o5, o6⟩ := h.obj k0
  have O1 : (Z.dm b is).O x = some a := by
    obtain ⟨a', o1', o2', _⟩ := (h.dm b is).obj k1
    rw [o2] at o2'
    cases o2'
    exact o1'
  have rm : r.isMut = true := by
    rcases mutE_cases k2 with ⟨_, _, _, _, rfl⟩ | ⟨_, _, _, _, _, _, rfl⟩ | ⟨_, _, _, _, _, _, _, _, rfl⟩ | ⟨_, _, _, _, _, _, rfl⟩ <;> rfl
  refine (ps_expr (pe_mutm (r := rMut X Z.al ((Z.dm b is).at []) m) pa slot hty (m_mut hu m) hx he rfl hs hline) (by rfl)).run pins s σ H D I ?_
  refine ⟨.ref a, o2, fun pins s u I1 ru => ?_, ?_⟩
  · cases ru
    rcases mutE_cases k2 with ⟨rfl, l, rfl, _⟩ | ⟨rfl, l, _, rfl, _⟩ | ⟨rfl, l, _, rfl, _⟩ | ⟨rfl, l, _, rfl, _⟩
    · obtain ⟨b, xs, e, h1, _⟩ := o4.list
      cases e
      obtain ⟨its, _, ⟨ob, n, ho, hc, hd, _⟩, _⟩ := I1.list (.inl (.inl h1))
      exact ⟨⟨ob, ho, hc⟩, fun b z => by cases z; exact ⟨ob, ho, hd⟩⟩
    · obtain ⟨b, xs, e, h1, _⟩ := o4.list
      cases e
      obtain ⟨its, _, ⟨ob, n, ho, hc, hd, _⟩, _⟩ := I1.list (.inl (.inl h1))
      exact ⟨⟨ob, ho, hc⟩, fun b z => by cases z; exact ⟨ob, ho, hd⟩⟩
    · obtain ⟨b, ep, es, e, h1, h2⟩ := o4.dict
      cases e
      obtain ⟨_, _, rs, ⟨⟨ob, es', ho, hx, _⟩, _⟩, _⟩ := dct_raw I1 h1 h2
      exact ⟨⟨ob, ho, hx.1⟩, fun b z => by cases z; exact ⟨ob, ho, hx.2.1⟩⟩
    · obtain ⟨b, ep, es, e, h1, h2⟩ := o4.dict
      cases e
      obtain ⟨_, _, rs, ⟨⟨ob, es', ho, hx, _⟩, _⟩, _⟩ := dct_raw I1 h1 h2
      exact ⟨⟨ob, ho, hx.1⟩, fun b z => by cases z; exact ⟨ob, ho, hx.2.1⟩⟩
  refine ⟨Z, Ev.vals env, S, w, S', e1, h.st, h.eo, fun y H1 p => ?_⟩
  have h1 := h.xt p.xt p.st
  have h2 := h1.dm b is
  obtain ⟨a', o1', o2', o3', o4', o', o5', o6'⟩ := h2.obj k1
  rw [o2] at o2'
  cases o2'
  have hy : Rt X.w X.K Z.al H1 ((Z.dm b is).at []) y w ∧ (m = .append → Rz X.w X.K Z.al H1 ((Z.dm b is).at []) y w) := by
    rw [← hZ]
    cases m with
    | append => exact ⟨.of (dm_rz p.rz), fun _ => dm_rz p.rz⟩
    | _ => exact ⟨dm_rt p.rt, fun z => by cases z⟩
  refine ⟨a, d, w, r, y, rfl, rfl, by rw [dm_al] at o4'; exact o4', hy.1, hy.2, k2, fun em ey => ?_, fun c hc ec => ?_, fun z o2 new => ?_⟩
  · subst ey
    have top : w.isMut = true := by
      subst em
      rcases mutE_cases k2 with ⟨z, _⟩ | ⟨z, _⟩ | ⟨_, _, _, _, rfl, _⟩ | ⟨z, _⟩ <;> first | (cases z; done) | rfl
    have := (rz_top p.rz top).2.2 x o1
    exact hup em this
  · have := hc.2.2 x (by rw [ec]; exact O1)
    cases this
  · obtain ⟨w1, w2⟩ := h2.write (o' := o2) k1 O1 o5' o6' rm (by rw [dm_al]; exact new)
    rw [← hE] at w1
    exact q _ _ _ w1 ((Since.xt p.xt p.st).trans ((dm_since b is).trans w2))
end
end EvB
end

section
set_option autoImplicit false
set_option Elab.async false
set_option linter.all false
set_option maxRecDepth 100000
set_option maxHeartbeats 1000000
/-! stores: x[k] = e, names at once, op= -/
namespace EvB
open PySem PySem.Spec PyProof.Rows L2
open Ev (PV Store Res EnvV CallF CE CS IT Tgt)
theorem rzl_set {w : World} {K : PySem.W.Frag} {al : List Addr} {H : Hp} {P : Addr → Prop} {y : V} {v : PV} (ry : Rz w K al H P y v) : ∀ {xs : List V} {l : List PV} (j : Nat), RzL w K al H P xs l → RzL w K al H P (xs.set j y) (l.set j v)
  | _, _, _, .nil => .nil
  | _, _, 0, .cons _ t => .cons ry t
  | _, _, j + 1, .cons h t => .cons h (rzl_set ry j t)
section
variable {X : Cx} {al : List Addr} {P : Addr → Prop}
def rPut (X : Cx) (al : List Addr) (P : Addr → Prop) : TSet := fun o i v H Q => ∃ a d kv w r, o = .ref a ∧ Rt X.w X.K al H P (.ref a) d ∧ Rt X.w X.K al H P i kv ∧ Rz X.w X.K al H P v w ∧ Ev.putE d kv w = .ok r ∧ (∀ b, P b → b ≠ a) ∧ ∀ o', Rt X.w X.K al (upd H a o') P (.ref a) r → Q (upd H a o')
theorem set_put (hu : X.A.units + 64 < cLine) : PSet X (rPut X al P) := by
  intro pins s σ H o i v ov iv u Q I ro ri rv h
  obtain ⟨a, d, kv, w, r, rfl, hd, hk, hv, e, hP, q⟩ := h
  have off : ∀ (o' : HO) (o0 : HO), H a = some o0 → Mut (some o0) → Ext (fun b => b = a) H (upd H a o') := fun o' o0 h mu => Ext.put h mu rfl
  cases d <;> first | (simp [Ev.putE] at e; done) | skip
  · rename_i l
    cases kv <;> first | (simp [Ev.putE] at e; done) | skip
    rename_i n
    obtain ⟨f, e⟩ := need_bind e
    obtain ⟨j, e1, e⟩ := Res.bind_eq_ok e
    cases e
    have e1 := ofOpt_ok e1
    obtain ⟨b, xs, e2, h1, h2⟩ := hd.list
    cases e2
    have hi := hk.intE
    subst hi
    refine set_list pins s σ H (.ref a) (.int n) v ov iv u Q I ro ri rv ⟨a, xs, n, j, rfl, rfl, h1, ?_, q _ (.lst upd_same ?_)⟩
    · rw [h2.length]
      exact e1
    · exact (rzl_set hv j h2).ext (off _ _ h1 trivial) hP
  · rename_i l
    obtain ⟨f, e⟩ := need_bind e
    cases e
    obtain ⟨f1, f2⟩ := Bool.and_eq_true_iff.mp f
    have f2 := of_decide_eq_true f2
    obtain ⟨b, ep, es, e2, h1, h2⟩ := hd.dict
    cases e2
    have nd : (es.map (·.1)).Nodup := (I.hok a _ h1).1.2.2.1
    have hk' := hk.isKey f1
    refine set_dct hu pins s σ H (.ref a) i v ov iv u Q I ro ri rv ⟨a, ep, es, l, kv, v, rfl, h1, h2, f1, by rw [h2.length]; exact line_lt f2, rfl, hk', fun ep' => q _ (.dct upd_same ?_)⟩
    exact (rzd_put h2 nd f1 hk' hv).ext (off _ _ h1 trivial) hP
end
theorem swap_any {e : Expr} {t : Expr} {line : Nat} {env : Env} (h : ∀ x p, t ≠ .Name x p) : swapsWithSole [t] e line env = pure false := by
  cases e <;> first | rfl | (cases t <;> first | rfl | exact absurd rfl (h _ _))
theorem stores_sub {o i e : Expr} {p : Pos} {env : Env} : swappedStores [.Subscript o i p] e env = pure none := by
  cases e <;> rfl
def notTup : Expr → Bool
  | .Tuple _ _ _ => false
  | _ => true
theorem stores_tup {ts : List Expr} {k : Nat} {p : Pos} {e : Expr} {env : Env} (h : notTup e = true) : swappedStores [.Tuple ts k p] e env = pure none := by
  cases e <;> first | rfl | cases h
section
variable {X : Cx} {Z Z' : Sit} {H H' : Hp} {S S' : Store} {σ : L2.St} {env env' env1 : Ev.Env} {v : V} {d r : PV} {D : Ends} {f : Ev.Flow} {cf : CallF} {gl : Nat → Option PV} {W : Nat}
theorem putE_imm {d kv w r : PV} (h : Ev.putE d kv w = .ok r) : kv.imm = true ∧ r.isMut = true := by
  cases d <;> first | (simp [Ev.putE] at h; done) | skip
  · cases kv <;> first | (simp [Ev.putE] at h; done) | skip
    obtain ⟨f, h⟩ := need_bind h
    obtain ⟨j, e1, h⟩ := Res.bind_eq_ok h
    cases h
    exact ⟨rfl, rfl⟩
  · obtain ⟨f, h⟩ := need_bind h
    cases h
    exact ⟨imm_of_key _ (isKey_and (Bool.and_eq_true_iff.mp f).1).1, rfl⟩
theorem dm_dem {b : Bool} {is : List Nat} : (if b then env else Ev.demote env is) = if b then env else Ev.demote env is := rfl
theorem cs_put {x : Nat} {nm : Str} {p tpos spos : Pos} {k e : Expr} {ck ce : CE} (hu : X.A.units + 64 < cLine) (hx : PE X (.Name nm p) (tVar x)) (hk : PE X k (tEv X cf gl ck)) (he : PE X e (tEv X cf gl ce))
    (ha : ∀ v, assign (.Subscript (.Name nm p) k tpos) X.env v = (do
      let ov ← holding [v] (eval (.Name nm p) X.env)
      let iv ← holding [v, ov] (eval k X.env)
      standAt tpos
      holding [v, ov, iv] (setItem ov iv v)
      release [v, ov, iv] [])) :
    PS X (.Assign [.Subscript (.Name nm p) k tpos] e spos) (tSt X cf gl W (.put x ck ce)) := by
  refine ⟨fun pins s σ H D I ⟨Z, env, S, f, env', S', ee, h, q⟩ => ?_⟩
  simp only [Ev.evS] at ee
  obtain ⟨w, S1, e1, ee⟩ := bindP ee
  dsimp only at ee
  obtain ⟨kv, S2, e2, ee⟩ := bindP ee
  dsimp only at ee
  obtain ⟨env1, e3, ee⟩ := Res.bind_eq_ok ee
  cases ee
  obtain ⟨d, r, k1, k2, rfl⟩ := modOwn_ok e3
  have k1 : (if w.imm then env else Ev.demote env ce.tv)[x]? = some (.ow d) := k1
  have k0 : env[x]? = some (.ow d) := dem_own k1
  obtain ⟨a, o1, o2, o3, o4, o, o5, o6⟩ := h.obj k0
  have O1 : (Z.dm w.imm ce.tv).O x = some a := by
    obtain ⟨a', o1', o2', _⟩ := (h.dm w.imm ce.tv).obj k1
    rw [o2] at o2'
    cases o2'
    exact o1'
  obtain ⟨ki, rm⟩ := putE_imm k2
  refine (ps_asg he (pg_sub hx hk (set_put (al := Z.al) (P := (Z.dm w.imm ce.tv).at []) hu) ha) (swap_any fun _ _ z => by cases z) stores_sub (by rfl)).run pins s σ H D I ?_
  refine ⟨Z, Ev.vals env, S, w, S1, e1, h.st, h.eo, fun y H1 p1 => ⟨.ref a, o2, Z, Ev.vals env, S1, kv, S', e2, p1.st, h.eo.xt p1.xt, fun i H2 p2 => ?_⟩⟩
  have h1 := (h.xt p1.xt p1.st).xt p2.xt p2.st
  have h2 := h1.dm w.imm ce.tv
  obtain ⟨a', o1', o2', o3', o4', o', o5', o6'⟩ := h2.obj k1
  rw [o2] at o2'
  cases o2'
  refine ⟨a, d, kv, w, r, rfl, by rw [dm_al] at o4'; exact o4', .of (p2.rz.imm (Ext.refl (fun _ => False) H2) kv ki), dm_rz (rz_xt p2.xt p1.rz), k2, fun c hc ec => ?_, fun o2 new => ?_⟩
  · have := hc.2.2 x (by rw [ec]; exact O1)
    cases this
  · obtain ⟨w1, w2⟩ := h2.write (o' := o2) k1 O1 o5' o6' rm (by rw [dm_al]; exact new)
    exact q _ _ _ w1 ((Since.xt (p1.xt.trans p2.xt) p2.st).trans ((dm_since w.imm ce.tv).trans w2))
/-- (a, b, ..) = e -/
theorem cs_unp {is : List Nat} {ts : List Expr} {k : Nat} {tp spos : Pos} {e : Expr} {ce : CE} (hg : PG X (.Tuple ts k tp) (gT X.K (.tp is))) (he : PE X e (tEv X cf gl ce)) (hn : notTup e = true) (h1 : (assignEach [.Tuple ts k tp] X.env).map (·.2) = [assign (.Tuple ts k tp) X.env]) :
    PS X (.Assign [.Tuple ts k tp] e spos) (tSt X cf gl W (.unp is ce)) := PS_to (ps_asg he hg (swap_any fun _ _ z => by cases z) (stores_tup hn) h1) fun D σ H ⟨Z, env, S, f, env', S', ee, h, q⟩ => by
  simp only [Ev.evS] at ee
  obtain ⟨w, S1, e1, ee⟩ := bindP ee
  dsimp only at ee
  obtain ⟨env1, e2, ee⟩ := Res.bind_eq_ok ee
  cases ee
  refine ⟨Z, Ev.vals env, S, w, S', e1, h.st, h.eo, fun y H1 p => ?_⟩
  obtain ⟨Z1, a1, a2, a3, _, _, a4⟩ := (h.xt p.xt p.st).let ce.tv p.rz
  exact tgE_bind a1 e2 a4 fun Z2 σ2 b1 b2 => q Z2 σ2 H1 b1 ((Since.xt p.xt p.st).trans (a2.trans b2))
/-- name op= e -/
theorem cs_aug {i : Nat} {nm : Str} {p spos : Pos} {op : Ev.Bop} {e : Expr} {ce : CE} (hN : X.N.Nodup) (hi : X.N[i]? = some nm) (hx : Loc X.env.scope nm) (hf : X.fn nm = true ∨ X.env.scope.names.lookup nm = some .local) (he : PE X e (tEv X cf gl ce)) : PS X (.AugAssign (.Name nm p) (pyB op) e spos) (tSt X cf gl W (.aug i op ce)) := by
  refine ⟨fun pins s σ H D I ⟨Z, env, S, f, env', S', ee, h, q⟩ => ?_⟩
  simp only [Ev.evS] at ee
  obtain ⟨old, e0, ee⟩ := Res.bind_eq_ok ee
  obtain ⟨w, S1, e1, ee⟩ := bindP ee
  dsimp only at ee
  obtain ⟨r, e2, ee⟩ := Res.bind_eq_ok ee
  cases ee
  have e0 := ofOpt_ok e0
  have e3 : (Ev.vals env)[i]? = some (some old) := by
    cases k : (Ev.vals env)[i]? with
    | none => rw [k] at e0; cases e0
    | some o => rw [k] at e0; simp at e0; rw [e0]
  obtain ⟨y, g1, g2, g3⟩ := h.eo.get i old e3
  have fin : ∀ (H1 : Hp), XtA Z H H1 → StOk X.w X.K Z H1 S' → D.nx (σ.set i (some (.int r))) H1 := fun H1 x1 s1 => q _ _ _ ((h.xt x1 s1).setF i (.int r)) ((Since.xt x1 s1).trans fz_since)
  have kind : (op = .add ∧ ∃ a b, old = .int a ∧ w = .int b ∧ r = a + b) ∨ (op = .sub ∧ ∃ a b, old = .int a ∧ w = .int b ∧ r = a - b) := by
    cases op <;> first | (simp [Ev.augE] at e2; done) | skip
    all_goals
      cases old <;> first | (simp [Ev.augE] at e2; done) | skip
      cases w <;> first | (simp [Ev.augE] at e2; done) | skip
      cases e2
    · exact .inl ⟨rfl, _, _, rfl, rfl, rfl⟩
    · exact .inr ⟨rfl, _, _, rfl, rfl, rfl⟩
  rcases kind with ⟨rfl, a, b, rfl, rfl, rfl⟩ | ⟨rfl, a, b, rfl, rfl, rfl⟩
  · have hy := g3.intE
    subst hy
    refine (ps_aug hN hi hx he ip_add hf).run pins s σ H D I ⟨_, g1, Z, Ev.vals env, S, _, S', e1, h.st, h.eo, fun u H1 p => ?_⟩
    have hu := p.rt.intE
    subst hu
    exact ⟨a, b, rfl, rfl, fin H1 p.xt p.st⟩
  · have hy := g3.intE
    subst hy
    refine (ps_aug hN hi hx he ip_sub hf).run pins s σ H D I ⟨_, g1, Z, Ev.vals env, S, _, S', e1, h.st, h.eo, fun u H1 p => ?_⟩
    have hu := p.rt.intE
    subst hu
    exact ⟨a, b, rfl, rfl, fin H1 p.xt p.st⟩
end
end EvB
end

section
set_option autoImplicit false
set_option Elab.async false
set_option linter.all false
set_option maxRecDepth 100000
set_option maxHeartbeats 1000000
/-! names at once -/
namespace EvB
open PySem PySem.Spec PyProof.Rows L2
open Ev (PV Store Res EnvV CallF CE CS IT Tgt)
def setAll : L2.St → List Nat → List V → L2.St
  | σ, i :: is, v :: vs => setAll (σ.set i (some v)) is vs
  | σ, _, _ => σ
theorem setAll_off : ∀ {is : List Nat} {vs : List V} {σ : L2.St} {i : Nat} {x : Option V}, i ∉ is → setAll (σ.set i x) is vs = (setAll σ is vs).set i x
  | [], _, _, _, _, _ => by simp [setAll]
  | _ :: _, [], _, _, _, _ => by simp [setAll]
  | j :: is, v :: vs, σ, i, x, h => by
    simp only [List.mem_cons, not_or] at h
    rw [setAll, setAll, ← setAll_off h.2, List.set_comm _ _ h.1]
theorem setAll_snoc : ∀ {is : List Nat} {vs : List V} {σ : L2.St} {i : Nat} {v : V}, is.length = vs.length → setAll σ (is ++ [i]) (vs ++ [v]) = (setAll σ is vs).set i (some v)
  | [], [], _, _, _, _ => rfl
  | j :: is, w :: vs, σ, i, v, h => by
    simp only [List.cons_append, setAll]
    exact setAll_snoc (by simpa using h)
  | [], _ :: _, _, _, _, h => by cases h
  | _ :: _, [], _, _, _, h => by cases h
theorem setAll_rev : ∀ {is : List Nat} {vs : List V} {σ : L2.St}, is.Nodup → is.length = vs.length → setAll σ is.reverse vs.reverse = setAll σ is vs
  | [], [], _, _, _ => rfl
  | j :: is, w :: vs, σ, nd, h => by
    obtain ⟨h1, h2⟩ := List.nodup_cons.mp nd
    have hl : is.length = vs.length := by simpa using h
    rw [List.reverse_cons, List.reverse_cons, setAll_snoc (by simpa using hl), setAll_rev h2 hl, setAll, setAll_off h1]
  | [], _ :: _, _, _, h => by cases h
  | _ :: _, [], _, _, h => by cases h
theorem setAll_len : ∀ {is : List Nat} {vs : List V} {σ : L2.St}, (setAll σ is vs).length = σ.length
  | [], _, _ => by simp [setAll]
  | _ :: _, [], _ => by simp [setAll]
  | i :: is, v :: vs, σ => by rw [setAll, setAll_len, List.length_set]
section
variable {X : Cx} {pins : List (Addr × Obj)} {H : Hp}
theorem assign_all {E : Value → Shared → Prop} {Q : Unit → Shared → Prop} (hN : X.N.Nodup) : ∀ {is : List Nat} {ns : List Str} {vs : List V} {us : List Value} {σ : L2.St} {s : Shared}, Paired (fun i n => X.N[i]? = some n ∧ X.env.scope.names.lookup n = some .local) is ns → Vals vs us → is.length = vs.length → Inv X pins σ H s →
    (∀ s', Inv X pins (setAll σ is vs) H s' → Q () s') → wpAny (model X.prog X.w) X.A (assignInOrder (ns.map fun n => bindName X.env n) us) Q E s
  | _, _, _, _, _, s, .nil, .nil, _, I, q => assignInOrder_nil (q s I)
  | _, _, _, _, _, s, .cons h t, .cons r rr, hl, I, q => by
    refine assignInOrder_cons (wpAny_bindName (store_ok I hN h.1 (.inl h.2) r (fun s2 I2 => ?_) (.inr h.2)))
    exact assign_all hN t rr (by simpa using hl) I2 q
  | _, _, _, _, _, _, .nil, .cons _ _, hl, _, _ => by cases hl
  | _, _, _, _, _, _, .cons _ _, .nil, hl, _, _ => by cases hl
def tParR (is : List Nat) (ta : TA) : TS := fun D σ H => ta σ H fun vs H1 => vs.length = is.length ∧ vs.length ≤ sizeLine ∧ ∀ H2, Same H1 H2 → D.nx (setAll σ is vs) H2
theorem paired_rev {α β : Type} {R : α → β → Prop} : ∀ {l : List α} {m : List β}, Paired R l m → Paired R l.reverse m.reverse
  | _, _, .nil => .nil
  | _, _, .cons h t => by
    rw [List.reverse_cons, List.reverse_cons]
    have app : ∀ {a b : List α} {c d : List β}, Paired R a c → Paired R b d → Paired R (a ++ b) (c ++ d) := fun {a b c d} p q => by
      induction p with
      | nil => exact q
      | cons h _ ih => exact .cons h ih
    exact app (paired_rev t) (.cons h .nil)
/-- stored from the right -/
theorem ps_swap {is : List Nat} {ns : List Str} {ts es : List Expr} {kt k2 : Nat} {pt pt2 pos : Pos} {ta : TA} (hc : X.calm = true) (hN : X.N.Nodup) (hp : Paired (fun i n => X.N[i]? = some n ∧ X.env.scope.names.lookup n = some .local) is ns) (hd : is.Nodup) (ha : PA X es ta)
    (hw : swappedStores [.Tuple ts kt pt] (.Tuple es k2 pt2) X.env = pure (some ns)) : PS X (.Assign [.Tuple ts kt pt] (.Tuple es k2 pt2) pos) (tParR is ta) := by
  refine ⟨fun pins s σ H D I h => ?_⟩
  rw [exec_Assign_arm]
  refine wpAny_bind (wpAny_standAt ?_)
  rw [swap_any (t := .Tuple ts kt pt) (fun _ _ z => by cases z)]
  refine wpAny_bind (wpAny_pure ?_)
  rw [if_neg (by decide)]
  refine wpAny_bind (Tuple_ (thn (ha.run _ pins s σ H _ I h) fun us s1 ⟨vs, H1, I1, r1, hl, hz, q1⟩ => ?_))
  refine wpAny_newObj_type ?_ (by show us.toArray.size ≤ sizeLine; rw [List.size_toArray, ← r1.length]; exact hz)
  have I2 : Inv X pins σ H1 { s1 with heap := s1.heap.push { cls := .type "tuple", data := .seq us.toArray } } := I1.kept (t' := s1.toks) fun b o e => Heap.get?_push_of_some _ e
  rw [hw]
  refine wpAny_bind (wpAny_pure ?_)
  have hlen : ns.length = us.length := by rw [← Paired.length hp, ← hl, r1.length]
  show wpAny (model X.prog X.w) X.A (do rule "assign.swapped-stores"; let items ← unpackItems (.ref s1.heap.objs.size) ns.length none; assignInOrder (ns.reverse.map fun n => bindName X.env n) items.reverse; pure Flow.next) _ _ _
  refine wpAny_bind (wpAny_rule (wpAny_bind ?_))
  rw [hlen]
  refine unpackItems_tuple (items := us.toArray) (I.ok.hd hc) (IsTup.new s1.heap _) fun h' hx' => ?_
  have I3 := I2.kept (h' := h') (t' := s1.toks) fun b o e => hx' b o (Nat.ne_of_lt (Heap.lt_size e)) e
  refine wpAny_bind (assign_all hN (paired_rev hp) (vs := vs.reverse) (by simpa using paired_rev r1) (by simp [hl]) I3 fun s4 I4 => wpAny_pure ?_)
  rw [setAll_rev hd hl.symm] at I4
  exact ⟨_, H1, I4, q1 H1 (Same.refl H1)⟩
theorem gseq_all : ∀ {is : List Nat} {vs : List V} {σ : L2.St} {H : Hp} {Q : L2.St → Hp → Prop}, vs.length = is.length → Q (setAll σ is vs) H → gSeq is vs σ H Q
  | [], [], _, _, _, _, q => ⟨rfl, q⟩
  | i :: is, v :: vs, σ, H, Q, h, q => ⟨v, vs, rfl, gseq_all (σ := σ.set i (some v)) (by simpa using h) q⟩
  | [], _ :: _, _, _, _, h, _ => by cases h
  | _ :: _, [], _, _, _, h, _ => by cases h
/-- as a tuple, taken apart -/
theorem ps_apart {is : List Nat} {ts es : List Expr} {kt k2 : Nat} {pt pt2 pos : Pos} {ta : TA} (hg : PG X (.Tuple ts kt pt) (gT X.K (.tp is))) (ha : PA X es ta) (hw : swappedStores [.Tuple ts kt pt] (.Tuple es k2 pt2) X.env = pure none) (h1 : (assignEach [.Tuple ts kt pt] X.env).map (·.2) = [assign (.Tuple ts kt pt) X.env]) :
    PS X (.Assign [.Tuple ts kt pt] (.Tuple es k2 pt2) pos) (tParR is ta) := by
  refine ⟨fun pins s σ H D I h => ?_⟩
  have : PA X es fun σ H Q => ∃ Q', ta σ H Q' ∧ ∀ vs H1, Q' vs H1 → Q vs H1 := ⟨fun pos pins s σ H Q I ⟨Q', q1, q2⟩ => thn (ha.run pos pins s σ H Q' I q1) fun us s' ⟨vs, H1, I1, rv, q3⟩ => ⟨vs, H1, I1, rv, q2 vs H1 q3⟩⟩
  refine (ps_asg (pe_tup this) hg (swap_any fun _ _ z => by cases z) hw h1).run pins s σ H D I ?_
  refine ⟨_, h, fun vs H1 ⟨hl, hz, q⟩ => ⟨hz, fun p hp => ?_⟩⟩
  exact ⟨p, vs, rfl, .inl (.inl upd_same), hl, gseq_all hl (q _ (same_new hp))⟩
end
section
variable {X : Cx} {Z Z' : Sit} {H H' : Hp} {S S' : Store} {σ : L2.St} {env env' env1 : Ev.Env} {v : V} {d r : PV} {D : Ends} {f : Ev.Flow} {cf : CallF} {gl : Nat → Option PV} {W : Nat}
/-- the arguments of a store at once: σs is the state with what is stored already -/
def tEvP (X : Cx) (cf : CallF) (gl : Nat → Option PV) (pend is : List Nat) (es : List CE) : TA := fun σ H Q => ∃ (Z : Sit) (σs : L2.St) (env : Ev.Env) (S : Store) (env' : Ev.Env) (S' : Store), Ev.evPar cf gl pend is es env S = .ok (env', S') ∧ SS X Z σs H env S ∧
  (∀ i ∈ is, i < σs.length) ∧ (∀ i, i ∉ pend → σs[i]? = σ[i]?) ∧ σs.length = σ.length ∧ ∀ vs Z' H', vs.length = is.length → SS X Z' (setAll σs is vs) H' env' S' → Since Z H Z' H' → Q vs H'
theorem wipeV_ok {is : List Nat} {env : EnvV} {σs : L2.St} (h : EnvOk X Z σs H env) (e : ∀ i, i ∉ is → σs[i]? = σ[i]?) (hl : σs.length = σ.length) : EnvOk X Z σ H (Ev.wipeV env is) := by
  refine ⟨by rw [wipeV_len, ← hl]; exact h.len, fun i d q => ?_⟩
  obtain ⟨q1, q2⟩ := wipeV_get q
  obtain ⟨v, k1, k2⟩ := h.get i d q1
  exact ⟨v, by rw [← e i q2]; exact k1, k2⟩
abbrev PELA (X : Cx) (cf : CallF) (gl : Nat → Option PV) : List Expr → List CE → Prop := Paired fun e c => PE X e (tEvA X cf gl c)
theorem ce_par : ∀ {es : List Expr} {cs : List CE} {pend is : List Nat}, PELA X cf gl es cs → es.all notStar = true → PA X es (tEvP X cf gl pend is cs)
  | _, _, pend, [], .nil, _ => pa_nil.to fun σ H Q ⟨Z, σs, env, S, env', S', e, h, _, _, _, q⟩ => by
    simp only [Ev.evPar] at e
    cases e
    exact q [] Z H rfl h (Since.refl _ _)
  | _, _, pend, i :: is, .nil, _ => pa_nil.to fun σ H Q ⟨Z, σs, env, S, env', S', e, h, _, _, _, q⟩ => by
    simp only [Ev.evPar] at e
    cases e
  | _, _, pend, [], .cons (a := a) (b := c) (l₁ := as) (l₂ := bs) h t, hs => ⟨fun pos pins s σ H Q I ⟨Z, σs, env, S, env', S', e, _⟩ => by
    simp only [Ev.evPar] at e
    cases e⟩
  | _, _, pend, i :: is, .cons (a := a) (b := c) (l₁ := as) (l₂ := bs) h t, hs => by
    obtain ⟨hs1, hs2⟩ := Bool.and_eq_true_iff.mp (show (notStar a && as.all notStar) = true from hs)
    refine (pa_cons h (ce_par (pend := i :: pend) (is := is) t hs2) (starEach_cons hs1)).to fun σ H Q ⟨Z, σs, env, S, env', S', e, h, lt, ag, hl, q⟩ => ?_
    simp only [Ev.evPar] at e
    obtain ⟨r, S1, e1, e⟩ := bindP e
    dsimp only at e
    refine ⟨Z, _, S, r, S1, e1, h.st, wipeV_ok h.eo ag hl, fun x H1 p ac => ?_⟩
    have li : i < env.length := by rw [h.wide]; exact lt i List.mem_cons_self
    obtain ⟨Z1, h1, s1⟩ := h.bind ac p li
    refine ⟨Z1, σs.set i (some x), _, S1, env', S', e, h1, fun j m => by rw [List.length_set]; exact lt j (List.mem_cons_of_mem _ m), fun j hj => ?_, by rw [List.length_set]; exact hl, fun vs Z2 H2 hv h2 s2 => ?_⟩
    · simp only [List.mem_cons, not_or] at hj
      rw [List.getElem?_set_ne (Ne.symm hj.1)]
      exact ag j hj.2
    · exact q (x :: vs) Z2 H2 (by simp [hv]) h2 (s1.trans s2)
theorem cs_par {st : Stmt} {is : List Nat} {cs : List CE} (hi : ∀ i ∈ is, i < X.N.length) (hl : is.length ≤ 100) (h : PS X st (tParR is (tEvP X cf gl [] is cs))) : PS X st (tSt X cf gl W (.par is cs)) := by
  refine ⟨fun pins s σ H D I ⟨Z, env, S, f, env', S', ee, hh, q⟩ => h.run pins s σ H D I ?_⟩
  simp only [Ev.evS] at ee
  obtain ⟨env1, S1, e1, ee⟩ := bindP ee
  cases ee
  have hlen := I.len
  refine ⟨Z, σ, env, S, env1, S1, e1, hh, fun i m => by rw [hlen]; exact hi i m, fun _ _ => rfl, rfl, fun vs Z' H' hv h' s' => ⟨hv, by rw [hv]; exact Nat.le_trans hl (by decide), fun H2 sm => ?_⟩⟩
  exact q Z' _ H2 (h'.xt (Ext.same sm) (h'.st.same sm)) (s'.trans (Since.xt (X := X) (Ext.same sm) (h'.st.same sm)))
theorem setI_ok : ∀ {is : List Nat} {rs : List PV} {vs : List V} {env env1 : Ev.Env} {Z : Sit} {σ : L2.St}, Ev.setI is rs env = .ok env1 → SS X Z σ H env S → RzL X.w X.K Z.al H Z.P vs rs → ∃ Z', SS X Z' (setAll σ is vs) H env1 S ∧ Since Z H Z' H ∧ vs.length = is.length
  | [], [], [], env, env1, Z, σ, e, h, _ => by
    cases e
    exact ⟨Z, h, Since.refl _ _, rfl⟩
  | i :: is, r :: rs, v :: vs, env, env1, Z, σ, e, h, .cons h1 h2 => by
    simp only [Ev.setI] at e
    obtain ⟨f, e⟩ := need_bind e
    have hr : Rz X.w X.K Z.al H (Z.at []) v r := h1.imm (Ext.refl (fun _ => False) H) r f
    obtain ⟨Z', a1, a2, a3⟩ := setI_ok e (h.setF i hr) h2
    exact ⟨Z', a1, fz_since.trans a2, by simp [a3]⟩
  | [], _ :: _, _, _, _, _, _, e, _, _ => by cases e
  | _ :: _, [], _, _, _, _, _, e, _, _ => by cases e
theorem cs_parI {st : Stmt} {is : List Nat} {cs : List CE} (hl : is.length ≤ 100) (h : PS X st (tParR is (tEvL X cf gl cs))) : PS X st (tSt X cf gl W (.parI is cs)) := by
  refine ⟨fun pins s σ H D I ⟨Z, env, S, f, env', S', ee, hh, q⟩ => h.run pins s σ H D I ?_⟩
  simp only [Ev.evS] at ee
  obtain ⟨rs, S1, e1, ee⟩ := bindP ee
  dsimp only at ee
  obtain ⟨env1, e2, ee⟩ := Res.bind_eq_ok ee
  cases ee
  refine ⟨Z, Ev.vals env, S, rs, S', e1, hh.st, hh.eo, fun vs H1 p => ?_⟩
  obtain ⟨Z', a1, a2, a3⟩ := setI_ok e2 (hh.xt p.xt p.st) (p.rz.mono fun a _ _ q => q.1)
  refine ⟨a3, by rw [a3]; exact Nat.le_trans hl (by decide), fun H2 sm => ?_⟩
  exact q Z' _ H2 (a1.xt (Ext.same sm) (a1.st.same sm)) ((Since.xt p.xt p.st).trans (a2.trans (Since.xt (X := X) (Ext.same sm) (a1.st.same sm))))
end
end EvB
end

section
set_option autoImplicit false
set_option Elab.async false
set_option linter.all false
set_option maxRecDepth 100000
set_option maxHeartbeats 1000000
/-! x = xs.pop(); the shared object -/
namespace EvB
open PySem PySem.Spec PyProof.Rows L2
open Ev (PV Store Res EnvV CallF CE CS IT Tgt)
section
variable {X : Cx} {Z Z' : Sit} {H H' : Hp} {S S' : Store} {σ : L2.St} {env env' env1 : Ev.Env} {v : V} {d r : PV} {D : Ends} {f : Ev.Flow} {cf : CallF} {gl : Nat → Option PV} {W : Nat}
theorem rzl_dropLast {w : World} {K : PySem.W.Frag} {al : List Addr} {P : Addr → Prop} : ∀ {xs : List V} {l : List PV}, RzL w K al H P xs l → RzL w K al H P xs.dropLast l.dropLast
  | _, _, .nil => .nil
  | _, _, .cons h .nil => .nil
  | _, _, .cons h (.cons h2 t) => .cons h (rzl_dropLast (.cons h2 t))
theorem cs_popTo {i x : Nat} {nm y : Str} {p q apos cpos spos : Pos} (hN : X.N.Nodup) (hi : X.N[i]? = some y) (hl : Loc X.env.scope y) (hf : X.fn y = true ∨ X.env.scope.names.lookup y = some .local) (hx : PE X (.Name nm p) (tVar x)) (hline : (apos.endLine == cpos.line) = true) :
    PS X (.Assign [.Name y q] (.Call (.Attribute (.Name nm p) "pop" apos) [] [] cpos) spos) (tSt X cf gl W (.popTo i x)) := by
  refine PS_to (ps_set hN hi hl (pe_bm0 PySem.F.plainAttrs_list PySem.F.slot_list_pop PySem.F.type_list_pop mt_pop hx rfl hline) (by rfl) hf) fun D σ H ⟨Z, env, S, f, env', S', ee, h, q⟩ => ?_
  simp only [Ev.evS] at ee
  split at ee
  · rename_i o ho
    obtain ⟨⟨u, r⟩, e1, ee⟩ := Res.bind_eq_ok ee
    dsimp only at ee
    cases ee
    cases o <;> first | (simp [Ev.popE] at e1; done) | skip
    rename_i l
    simp only [Ev.popE] at e1
    obtain ⟨u', e2, e1⟩ := Res.bind_eq_ok e1
    cases e1
    have e2 := ofOpt_ok e2
    obtain ⟨a, o1, o2, o3, o4, ob, o5, o6⟩ := h.obj ho
    obtain ⟨b, xs, eb, h1, h2⟩ := o4.list
    cases eb
    have hlen := h2.length
    rw [List.getLast?_eq_getElem?] at e2
    obtain ⟨z, hz, rz⟩ := rzl_at h2 e2
    refine ⟨.ref a, o2, .inl ⟨rfl, xs, .inl (.inl h1)⟩, a, xs, z, rfl, rfl, h1, by rw [hlen]; exact hz, ?_⟩
    have e0 : Ext (fun b => b = a) H (upd H a (.lst xs.dropLast)) := Ext.put h1 trivial rfl
    have off : ∀ b, Z.at [] b → ¬ b = a := fun b q z => by cases q.2.2 x (by rw [z]; exact o1)
    have new : Rt X.w X.K Z.al (upd H a (.lst xs.dropLast)) (Z.at []) (.ref a) (.lst l.dropLast) := .lst upd_same ((rzl_dropLast h2).ext e0 off)
    obtain ⟨w1, w2⟩ := h.write (r := .lst l.dropLast) ho o1 h1 trivial rfl new
    have rz' := rz.ext e0 off
    exact q _ _ _ (w1.setF i rz') (w2.trans fz_since)
  · cases ee
/-! ### the shared object -/
theorem SS.cell {i : Nat} {a : Addr} {Hb : Hp} (h : SS X Z σ H env S) (hS : S = []) (lt : i < env.length) (m : r.isMut = true) (rt : Rt X.w X.K Z.al H (fun b => Z.at [] b ∧ b ≠ a) (.ref a) r) (hb : EnvOk X Z σ Hb (Ev.vals env)) (x : XtA Z Hb H) (hO : ∀ j b, Z.O j = some b → Hb b ≠ none) (hn : Hb a = none) :
    ∃ Z', SS X Z' (σ.set i (some (.ref a))) H (env.set i (.fz (.cel 0))) [r] ∧ Since Z Hb Z' H := by
  subst hS
  have al0 : Z.al = [] := List.eq_nil_of_length_eq_zero h.st.len
  let Z' : Sit := { al := [a], P := Z.P, C := fun b => H b ≠ none ∧ Z.at [] b ∧ b ≠ a, O := (Z.fz [i]).O }
  have sm : Same Hb H := fun b o e => (x b o e).elim id fun z => by rw [al0] at z; cases z.1
  have nb : ∀ b, Hb b ≠ none → b ≠ a := fun b q z => q (by rw [z]; exact hn)
  have up : ∀ {js b}, b ≠ a → Z.at js b → Z'.at js b := fun {js b} ne q => ⟨q.1, by simpa [Z'] using ne, fun j e => q.2.2 j (fz_less j b e)⟩
  have ua : ∀ (n : Nat) (b : Addr), Z.al[n]? = some b → Z'.al[n]? = some b := fun n b e => by rw [al0] at e; cases e
  have ha : H a ≠ none := rt_some rt m
  have rta : ∀ {Q : Addr → Prop} {v : V} {d : PV} {G : Hp}, Rt X.w X.K Z.al G Q v d → Rt X.w X.K Z'.al G Q v d := fun {Q v d G} q => by
    cases q with
    | of q => exact .of (rz_al ua _ q)
    | lst q1 q2 => exact .lst q1 (rzl_al ua _ q2)
    | dct q1 q2 => exact .dct q1 (rzd_al ua _ q2)
  refine ⟨Z', ⟨by rw [List.length_set, List.length_set]; exact h.wide, ⟨rfl, by simp [Z'], h.st.fr, fun n b e => ?_, fun b c => ⟨c.1, up c.2.2 c.2.1⟩, fun j b e => ?_⟩, ?_, fun j u e => ?_, fun j b e => ?_, fun j k b e1 e2 => h.inj j k b (fz_less j b e1) (fz_less k b e2)⟩, ?_⟩
  · have hn0 : n = 0 ∧ b = a := by
      cases n with
      | zero =>
        have e : [a][0]? = some b := e
        simp at e
        exact ⟨rfl, e.symm⟩
      | succ n =>
        have e : [a][n + 1]? = some b := e
        simp at e
    obtain ⟨rfl, rfl⟩ := hn0
    exact ⟨r, rfl, m, rta (rt.mono fun c o e q => ⟨by rw [e]; exact (fun z => nomatch z), q⟩)⟩
  · have := fz_less j b e
    refine ⟨(h.st.own j b this).1, ?_⟩
    simpa [Z'] using nb b (hO j b this)
  · rw [vals_set]
    have e1 : EnvOk X Z' σ Hb (Ev.vals env) := ⟨hb.len, fun j d q => by
      obtain ⟨u, k1, k2, k3⟩ := hb.get j d q
      exact ⟨u, k1, rz_al ua _ (k2.mono fun b o e q => up (nb b (by rw [e]; exact fun z => nomatch z)) q), rta (k3.mono fun b o e q => up (nb b (by rw [e]; exact fun z => nomatch z)) q)⟩⟩
    refine (e1.xt (Z := Z') (Ext.same sm)).set (.cel ?_) (.of (.cel ?_)) <;> rfl
  · by_cases q : i = j
    · subst q
      rw [List.getElem?_set_self lt] at e
      cases e
    · rw [List.getElem?_set_ne q] at e
      obtain ⟨b, k1, k2, k3⟩ := h.own j u e
      refine ⟨b, ?_, by rw [List.getElem?_set_ne q]; exact k2, k3⟩
      show (if j ∈ [i] then none else Z.O j) = _
      rw [if_neg (by simp only [List.mem_singleton]; exact fun z => q z.symm)]
      exact k1
  · obtain ⟨e1, e2⟩ := fz_O e
    obtain ⟨u, k⟩ := h.only j b e2
    have q : i ≠ j := fun z => e1 (by simp [z])
    exact ⟨u, by rw [List.getElem?_set_ne q]; exact k⟩
  · refine ⟨rfl, fun b q z => ?_, Ext.same sm, fun j b e => .inl ⟨j, fz_less j b e⟩, .inr ⟨al0, fun b e => ?_⟩⟩
    · cases k : Hb b with
      | none => exact q k
      | some o =>
        rw [sm b o k] at z
        cases z
    · rw [List.mem_singleton.mp (show b ∈ [a] from e)]
      exact hn
theorem cs_cell {st : Stmt} {i : Nat} {ce : CE} (hi : i < X.N.length) (h : PS X st (tAsg (tEvA X cf gl ce) (gName i))) : PS X st (tSt X cf gl W (.cell i ce)) := by
  refine ⟨fun pins s σ H D I ⟨Z, env, S, f, env', S', ee, hh, q⟩ => h.run pins s σ H D I ?_⟩
  have hl := I.len
  simp only [Ev.evS] at ee
  obtain ⟨f0, ee⟩ := need_bind ee
  obtain ⟨r, S1, e1, ee⟩ := bindP ee
  dsimp only at ee
  obtain ⟨f1, ee⟩ := need_bind ee
  cases ee
  simp only [Bool.and_eq_true] at f1
  refine ⟨Z, Ev.vals env, S, r, S1, e1, hh.st, hh.eo, fun x H1 p ac => ?_⟩
  have h1 := hh.xt p.xt p.st
  have h2 := h1.dm r.partsImm ce.pv
  have hS : S1 = [] := by simpa using f1.2
  obtain ⟨a, rfl⟩ : ∃ a, x = .ref a := by
    cases r <;> first | (cases f1.1.2; done) | skip
    · obtain ⟨a, xs, e, _⟩ := p.rt.list
      exact ⟨a, e⟩
    · obtain ⟨a, ep, es, e, _⟩ := p.rt.dict
      exact ⟨a, e⟩
  have hn : H a = none := (p.fr f1.1.1 a rfl).elim id fun z => by rw [f1.1.2] at z; cases z
  have rt0 := dm_rt p.rt
  have na : a ∉ Z.al := fun z => hh.st.alive z hn
  have rt1 := ac ((Z.dm r.partsImm ce.pv).at []) (fun b q => by rw [← dm_al (Z := Z) r.partsImm ce.pv]; exact q.2.1) a rfl na f1.1.2 rt0
  have hv : Ev.vals (if r.partsImm then env else Ev.demote env ce.pv) = Ev.vals env := by
    split
    · rfl
    · exact vals_dem _ _
  have lt : i < (if r.partsImm then env else Ev.demote env ce.pv).length := by
    have := congrArg List.length hv
    rw [vals_len, vals_len] at this
    rw [this, hh.wide]
    omega
  obtain ⟨Z', w1, w2⟩ := h2.cell (i := i) (a := a) (r := r) (Hb := H) hS lt f1.1.2 (by rw [dm_al]; exact rt1) (by rw [hv]; exact EnvOk.less (Z := Z) (dm_P _ _) (dm_al _ _) dm_less hh.eo) (by show Ext (fun a => a ∈ (Z.dm r.partsImm ce.pv).al) H H1; rw [dm_al]; exact p.xt) (fun j b e => (hh.st.own j b (dm_less j b e)).1) hn
  exact q Z' _ H1 w1 ((dm_since r.partsImm ce.pv).trans w2)
/-! ### w[k] op= e of the shared object -/
theorem SS.obj2 {x n : Nat} (h : SS X Z σ H env S) (he : env[x]? = some (.fz (.cel n))) : ∃ a, σ[x]? = some (some (.ref a)) ∧ Z.al[n]? = some a := by
  have hv : (Ev.vals env)[x]? = some (some (.cel n)) := by rw [vals_get, he]; rfl
  obtain ⟨u, q1, q2, q3⟩ := h.eo.get x _ hv
  cases q2 with
  | cel e => exact ⟨_, q1, e⟩
theorem SS.wcell {n : Nat} {a : Addr} {o o' : HO} (h : SS X Z σ H env S) (ha : Z.al[n]? = some a) (hH : H a = some o) (mu : Mut (some o)) (m : r.isMut = true) (new : Rt X.w X.K Z.al (upd H a o') Z.C (.ref a) r) : SS X Z σ (upd H a o') env (S.set n r) ∧ XtA Z H (upd H a o') ∧ StOk X.w X.K Z (upd H a o') (S.set n r) := by
  have mem : a ∈ Z.al := List.mem_of_getElem? ha
  have e0 : Ext (fun b => b = a) H (upd H a o') := Ext.put hH mu rfl
  have x0 : XtA Z H (upd H a o') := e0.mono fun b q => by rw [q]; exact mem
  have live : ∀ b, H b ≠ none → upd H a o' b ≠ none := fun b q z => by
    by_cases e : b = a
    · rw [e, upd_same] at z
      cases z
    · rw [upd_ne e] at z
      exact q z
  have s' : StOk X.w X.K Z (upd H a o') (S.set n r) := by
    refine ⟨by rw [List.length_set]; exact h.st.len, h.st.nod, fun b q => h.st.fr b ?_, fun j b e => ?_, fun b c => ⟨live b (h.st.csub b c).1, (h.st.csub b c).2⟩, fun i b e => ⟨live b (h.st.own i b e).1, (h.st.own i b e).2⟩⟩
    · cases k : H b with
      | none => rfl
      | some z => exact absurd q (live b (by rw [k]; exact fun z => nomatch z))
    · by_cases q : n = j
      · subst q
        rw [ha] at e
        cases e
        have ln : n < S.length := by
          rw [← h.st.len]
          exact (List.getElem?_eq_some_iff.mp ha).1
        exact ⟨r, List.getElem?_set_self ln, m, new⟩
      · obtain ⟨u, q1, q2, q3⟩ := h.st.cel j b e
        refine ⟨u, by rw [List.getElem?_set_ne q]; exact q1, q2, q3.ext e0 (fun c hc z => (h.st.csub c hc).2.2.1 (by rw [z]; exact mem)) fun c ec => .inl fun z => q ?_⟩
        cases ec
        subst z
        exact (List.getElem?_inj (List.getElem?_eq_some_iff.mp ha).1 h.st.nod).mp (ha.trans e.symm)
  exact ⟨h.xt x0 s', x0, s'⟩
def rGetD (X : Cx) (al : List Addr) (P : Addr → Prop) : V → V → Hp → VK → Prop := fun o i H Q => ∃ a l kv w, o = .ref a ∧ Rt X.w X.K al H P (.ref a) (.dct l) ∧ Rt X.w X.K al H P i kv ∧ kv.isKey = true ∧ Ev.dGet l kv = some w ∧ ∀ z, Rz X.w X.K al H P z w → Q z H
theorem get_dct {al : List Addr} {P : Addr → Prop} (hu : X.A.units + 64 < cLine) : PGet X (rGetD X al P) := by
  intro pins s σ H o i ov iv Q I ro ri h
  obtain ⟨a, l, kv, w, rfl, hd, hk, f, g, q⟩ := h
  obtain ⟨b, ep, es, e2, h1, h2⟩ := hd.dict
  cases e2
  cases ro
  obtain ⟨z, hds, rows, m, er⟩ := dct_raw I h1 h2
  obtain ⟨kc, kd⟩ := key_at I f (hk.isKey f) ri
  obtain ⟨p, hp, hv⟩ := rzd_some (isKey_and f).1 h2 g
  obtain ⟨p', hp', _, rv⟩ := er.getB hp
  exact item_raw hu kc kd m hp' fun tk => ⟨p.2, H, I.tok _, rv, q p.2 hv⟩
theorem cs_augi {x : Nat} {nm : Str} {p tpos spos : Pos} {op : Ev.Bop} {k e : Expr} {ck ce : CE} (hu : X.A.units + 64 < cLine) (hx : PE X (.Name nm p) (tVar x)) (hk : PE X k (tEv X cf gl ck)) (he : PE X e (tEv X cf gl ce))
    (ha : ∀ ov iv new, augStore k ov iv new = (do holding [new, ov, iv] (setItem ov iv new); release [new, ov, iv] []; pure .next)) : PS X (.AugAssign (.Subscript (.Name nm p) k tpos) (pyB op) e spos) (tSt X cf gl W (.augi x ck op ce)) := by
  refine ⟨fun pins s σ H D I ⟨Z, env, S, f, env', S', ee, h, q⟩ => ?_⟩
  simp only [Ev.evS] at ee
  split at ee
  · rename_i n hn
    obtain ⟨kv, S1, e1, ee⟩ := bindP ee
    dsimp only at ee
    obtain ⟨o, e2, ee⟩ := Res.bind_eq_ok ee
    obtain ⟨f1, ee⟩ := need_bind ee
    obtain ⟨l, rfl⟩ : ∃ l, o = .dct l := by cases o <;> first | (cases ee; done) | exact ⟨_, rfl⟩
    · dsimp only at ee
      obtain ⟨old, e3, ee⟩ := Res.bind_eq_ok ee
      obtain ⟨w, S2, e4, ee⟩ := bindP ee
      dsimp only at ee
      obtain ⟨r, e5, ee⟩ := Res.bind_eq_ok ee
      obtain ⟨o2, e6, ee⟩ := Res.bind_eq_ok ee
      split at ee
      · rename_i l2
        obtain ⟨f2, ee⟩ := need_bind ee
        cases ee
        have e2 := ofOpt_ok e2
        have e3 := ofOpt_ok e3
        have e6 := ofOpt_ok e6
        obtain ⟨a, hs, hal⟩ := h.obj2 hn
        have kind : (op = .add ∧ ∃ i j, old = .int i ∧ w = .int j ∧ r = i + j) ∨ (op = .sub ∧ ∃ i j, old = .int i ∧ w = .int j ∧ r = i - j) := by
          cases op <;> first | (simp [Ev.augE] at e5; done) | skip
          all_goals
            cases old <;> first | (simp [Ev.augE] at e5; done) | skip
            cases w <;> first | (simp [Ev.augE] at e5; done) | skip
            cases e5
          · exact .inl ⟨rfl, _, _, rfl, rfl, rfl⟩
          · exact .inr ⟨rfl, _, _, rfl, rfl, rfl⟩
        have main : ∀ (g : Int → Int → Int) (i j : Int), old = .int i → w = .int j → r = g i j → tAugS (tVar x) (tEv X cf gl ck) (tEv X cf gl ce) (rGetD X Z.al Z.C) (ipI g) (rPut X Z.al Z.C) D σ H := by
          intro g i j eo ew er
          subst eo ew er
          refine ⟨.ref a, hs, Z, Ev.vals env, S, kv, S1, e1, h.st, h.eo, fun y H1 p1 => ?_⟩
          obtain ⟨d1, k1, k2, k3⟩ := p1.st.cel n a hal
          rw [e2] at k1
          cases k1
          have hky : Rz X.w X.K Z.al H1 Z.C y kv := p1.rz.imm (Ext.refl (fun _ => False) H1) kv (imm_of_key kv (isKey_and f1).1)
          refine ⟨a, l, kv, .int i, rfl, k3, .of hky, f1, e3, fun z rz => ?_⟩
          cases rz
          refine ⟨Z, Ev.vals env, S1, .int j, S2, e4, p1.st, h.eo.xt p1.xt, fun u H2 p2 => ?_⟩
          have hu2 := p2.rt.intE
          subst hu2
          obtain ⟨d2, k4, k5, k6⟩ := p2.st.cel n a hal
          rw [e6] at k4
          cases k4
          obtain ⟨b, ep, es, eb, c1, c2⟩ := k6.dict
          cases eb
          refine ⟨i, j, rfl, rfl, a, .dct l2, kv, .int (g i j), .dct (Ev.dPut l2 kv (.int (g i j))), rfl, k6, .of (hky.imm p2.xt kv (imm_of_key kv (isKey_and f1).1)), .int _, ?_, fun b hb z => ?_, fun o' new => ?_⟩
          · simp only [Ev.putE, f1, f2, Bool.and_self, Ev.Res.need_true, Res.ok_bind]
          · exact (p2.st.csub b hb).2.2.1 (by rw [z]; exact List.mem_of_getElem? hal)
          · have h2 := (h.xt p1.xt p1.st).xt p2.xt p2.st
            obtain ⟨w1, w2, w3⟩ := h2.wcell (o' := o') hal c1 trivial rfl new
            exact q Z σ _ w1 ((Since.xt (p1.xt.trans p2.xt) p2.st).trans (Since.xt w2 w3))
        rcases kind with ⟨rfl, i, j, a1, a2, a3⟩ | ⟨rfl, i, j, a1, a2, a3⟩
        · exact (ps_augS hx hk (get_dct hu) he ip_add (set_put hu) ha).run pins s σ H D I (main _ i j a1 a2 a3)
        · exact (ps_augS hx hk (get_dct hu) he ip_sub (set_put hu) ha).run pins s σ H D I (main _ i j a1 a2 a3)
      · cases ee
  · cases ee
end
end EvB
end

section
set_option autoImplicit false
set_option Elab.async false
set_option linter.all false
set_option maxRecDepth 100000
set_option maxHeartbeats 2000000
/-! the checker: that code terms are the program's text -/
namespace EvB
open PySem PySem.Spec PyProof.Rows L2
open Ev (PV Store Res EnvV CallF CE CS IT Tgt Gen)
def all2 {α β : Type} (p : α → β → Bool) : List α → List β → Bool
  | [], [] => true
  | a :: as, b :: bs => p a b && all2 p as bs
  | _, _ => false
theorem all2_paired {α β : Type} {p : α → β → Bool} {R : α → β → Prop} (k : ∀ a b, p a b = true → R a b) : ∀ {l : List α} {m : List β}, all2 p l m = true → Paired R l m
  | [], [], _ => .nil
  | a :: as, b :: bs, h => by
    obtain ⟨h1, h2⟩ := Bool.and_eq_true_iff.mp (show (p a b && all2 p as bs) = true from h)
    exact .cons (k a b h1) (all2_paired k h2)
  | [], _ :: _, h => by cases h
  | _ :: _, [], h => by cases h
structure Lg where
  N : List Str
  fns : List Str
  gls : List Str
def biL : List Str := ["len", "tuple", "list", "dict", "sorted", "all", "any", "abs", "sum", "int", "min", "max", "isinstance", "range", "set", "zip", "str", "bool"]
structure Fx (L : Lg) (sc : Scope) (fnb : Str → Bool) (X : Cx) (cf : CallF) (gl : Nat → Option PV) : Prop where
  N : X.N = L.N
  nd : L.N.Nodup
  sc : X.env.scope = sc
  fnb : ∀ x, fnb x = true → X.fn x = true
  calm : X.calm = true
  hu : X.A.units + 128 < cLine
  bi : ∀ x ∈ biL, X.mg x = none
  fn : ∀ (f : Nat) (x : Str), L.fns[f]? = some x → ∃ (k np : Nat) (fa : Addr) (fd : FuncData) (ps : List Str), FnOk X.prog X.w X.K X.mg X.base noX k fa fd ps (spEv X.w X.K cf f np) ∧ Room k X.A ∧ X.mg x = some (.ref fa) ∧ PySem.W.keepIn X.K (.ref fa) = true ∧ Binds X.K fd ps [] ∧ ∀ args S r, cf f args S = .ok r → args.length = np
  glo : ∀ (g : Nat) (x : Str), L.gls[g]? = some x → ∃ s t, gl g = some (.str s) ∧ X.mg x = some (.str (toS s) t) ∧ s.length ≤ sizeLine
def vis (sc : Scope) (x : Str) : Bool := match sc.names.lookup x with
  | some .local => true | some .cell => true | some .free => true | _ => false
def isGlo (sc : Scope) (x : Str) : Bool := match sc.names.lookup x with
  | some .globalImplicit => true | _ => false
def loc (sc : Scope) (x : Str) : Bool := match sc.names.lookup x with
  | some .local => true | some .cell => true | _ => false
def isLocal (sc : Scope) (x : Str) : Bool := match sc.names.lookup x with
  | some .local => true | _ => false
def isFn (sc : Scope) : Bool := match sc.kind with
  | .function => true | _ => false
theorem vis_ok {sc : Scope} {x : Str} (h : vis sc x = true) : Vis sc x := by
  unfold vis at h
  split at h <;> first | (cases h; done) | skip
  · exact .inl (by assumption)
  · exact .inr (.inl (by assumption))
  · exact .inr (.inr (by assumption))
theorem loc_ok {sc : Scope} {x : Str} (h : loc sc x = true) : Loc sc x := by
  unfold loc at h
  split at h <;> first | (cases h; done) | skip
  · exact .inl (by assumption)
  · exact .inr (by assumption)
theorem local_ok {sc : Scope} {x : Str} (h : isLocal sc x = true) : sc.names.lookup x = some .local := by
  unfold isLocal at h
  split at h <;> first | (cases h; done) | assumption
theorem glo_ok {sc : Scope} {x : Str} (h : isGlo sc x = true) : sc.names.lookup x = some .globalImplicit := by
  unfold isGlo at h
  split at h <;> first | (cases h; done) | assumption
theorem fn_kind {sc : Scope} (h : isFn sc = true) : sc.kind = .function := by
  unfold isFn at h
  split at h <;> first | (cases h; done) | assumption
def nmOk (x : Str) : Bool := !(x == ("__debug__" : Str)) && !(x == ("__classdict__" : Str)) && !(x == ("__name__" : Str))
theorem nmOk_ok {x : Str} (h : nmOk x = true) : (x == ("__debug__" : Str)) = false ∧ (x == ("__classdict__" : Str)) = false ∧ x ≠ "__name__" := by
  unfold nmOk at h
  simp only [Bool.and_eq_true, Bool.not_eq_true', beq_eq_false_iff_ne] at h
  exact ⟨beq_eq_false_iff_ne.mpr h.1.1, beq_eq_false_iff_ne.mpr h.1.2, h.2⟩
def nmAt (L : Lg) (i : Nat) (x : Str) : Bool := decide (L.N[i]? = some x)
def ownL (L : Lg) (is : List Nat) : List (Str × Nat) := is.map fun i => ((L.N[i]?).getD "", i)
/-- a target -/
def ckT (L : Lg) (sc : Scope) (fnb : Str → Bool) : Expr → Tgt → Bool
  | .Name x _, .nm i => nmAt L i x && loc sc x && (fnb x || isLocal sc x)
  | .Tuple es _ _, .tp is => all2 (fun e i => match e with
    | .Name x _ => nmAt L i x && loc sc x && (fnb x || isLocal sc x)
    | _ => false) es is
  | _, _ => false
def biT : Ev.Bi → Option String
  | .tuple => some "tuple" | .list => some "list" | .dict => some "dict" | .int => some "int" | _ => none
def biB : Ev.Bi → Option String
  | .len => some "len" | .sorted => some "sorted" | .all => some "all" | .any => some "any" | .abs => some "abs" | .sum => some "sum" | .min => some "min" | .max => some "max" | _ => none
def biN (b : Ev.Bi) : Option Str := (biT b).orElse (fun _ => biB b) |>.map Str.ofString
def ckKV (p : Expr → CE → Bool) : List (Option Expr) → List Expr → List CE → Bool
  | [], [], [] => true
  | some k :: ks, v :: vs, ck :: cv :: cs => p k ck && p v cv && ckKV p ks vs cs
  | _, _, _ => false
def ckO (p : Expr → CE → Bool) : Option Expr → Option CE → Bool
  | none, none => true
  | some e, some c => p e c
  | _, _ => false
def ckTs (p : Expr → CE → Bool) : List Expr → List CE → Bool
  | [], [] => true
  | [e], [c] => p e c
  | _, _ => false
def notRange : Expr → Bool
  | .Call (.Name x _) _ _ _ => !(x == ("range" : Str))
  | _ => true
/-- what is walked -/
def ckI (sc : Scope) (p : Expr → CE → Bool) : Expr → IT → Bool
  | .Call (.Name x _) args [] _, .rng cs => decide (x = ("range" : Str)) && isGlo sc x && all2 p args cs && args.all notStar && decide (1 ≤ args.length ∧ args.length ≤ 3)
  | e, .val c => p e c
  | _, _ => false
def mthN : Ev.Mth → Option Str
  | .get => some "get" | .count => some "count" | _ => none
def cellB (scope : Scope) (x : Str) : Bool := scope.names.lookup x == some .cell
def ckE (L : Lg) : Nat → Scope → Expr → CE → Bool
  | 0, _, _, _ => false
  | n + 1, sc, e, c => match c with
    | .slot i => match e with
      | .Name x _ => nmAt L i x && vis sc x && nmOk x
      | _ => false
    | .gl g => match e with
      | .Name x _ => decide (L.gls[g]? = some x) && isGlo sc x && nmOk x
      | _ => false
    | .int i => match e with
      | .Constant (.int j) _ _ => decide (i = j)
      | _ => false
    | .bl i => match e with
      | .Constant (.bool j) _ _ => decide (i = j)
      | _ => false
    | .non => match e with
      | .Constant .none _ _ => true
      | _ => false
    | .str s => match e with
      | .Constant (.str x) _ _ => decide (x = toS s) && decide (s.length ≤ 1000000)
      | _ => false
    | .tup cs => match e with
      | .Tuple es _ _ => all2 (ckE L n sc) es cs && es.all notStar
      | _ => false
    | .lst cs => match e with
      | .List es _ => all2 (ckE L n sc) es cs && es.all notStar
      | _ => false
    | .dic cs => match e with
      | .Dict ks vs _ => ckKV (ckE L n sc) ks vs cs && decide (ks.length ≤ 15)
      | _ => false
    | .bin o ca cb => match e with
      | .BinOp a op b _ => decide (op = pyB o) && ckE L n sc a ca && ckE L n sc b cb
      | _ => false
    | .neg ca => match e with
      | .UnaryOp .USub a _ => ckE L n sc a ca
      | _ => false
    | .not ca => match e with
      | .UnaryOp .Not a _ => ckE L n sc a ca
      | _ => false
    | .and cs => match e with
      | .BoolOp .And es _ => all2 (ckE L n sc) es cs
      | _ => false
    | .or cs => match e with
      | .BoolOp .Or es _ => all2 (ckE L n sc) es cs
      | _ => false
    | .ite cc ca cb => match e with
      | .IfExp t a b _ => ckE L n sc t cc && ckE L n sc a ca && ckE L n sc b cb
      | _ => false
    | .cmp o ca cb => match e with
      | .Compare a [op] [b] _ => decide (op = pyC o) && ckE L n sc a ca && ckE L n sc b cb && notSet b
      | _ => false
    | .chain o1 o2 ca cb cc => match e with
      | .Compare a [op1, op2] [b, c] _ => decide (op1 = pyC o1) && decide (op2 = pyC o2) && ckE L n sc a ca && ckE L n sc b cb && ckE L n sc c cc && notSet c
      | _ => false
    | .idx ca ci => match e with
      | .Subscript a i _ => ckE L n sc a ca && ckE L n sc i ci && notSlice i
      | _ => false
    | .rev ca => match e with
      | .Subscript a (.Slice none none (some (.UnaryOp .USub (.Constant (.int i) _ _) _)) _) _ => decide (i = 1) && ckE L n sc a ca
      | _ => false
    | .slc ca lo hi => match e with
      | .Subscript a (.Slice l h none _) _ => ckE L n sc a ca && ckO (ckE L n sc) l lo && ckO (ckE L n sc) h hi
      | _ => false
    | .call f cs => match e with
      | .Call (.Name x _) args [] _ => decide (L.fns[f]? = some x) && isGlo sc x && nmOk x && all2 (ckE L n sc) args cs && args.all notStar && !args.isEmpty
      | _ => false
    | .isi t ca => match e with
      | .Call (.Name x _) [a, .Name y _] [] _ => decide (x = ("isinstance" : Str)) && isGlo sc x && decide (y = Str.ofString (pyT t)) && isGlo sc y && ckE L n sc a ca && notStar a
      | _ => false
    | .sset ca => match e with
      | .Call (.Name x _) [.Call (.Name y _) [a] [] _] [] _ => decide (x = ("sorted" : Str)) && isGlo sc x && decide (y = ("set" : Str)) && isGlo sc y && ckE L n sc a ca && notStar a
      | _ => false
    | .lset ca => match e with
      | .Call (.Name x _) [.Call (.Name y _) [a] [] _] [] _ => decide (x = ("len" : Str)) && isGlo sc x && decide (y = ("set" : Str)) && isGlo sc y && ckE L n sc a ca && notStar a
      | _ => false
    | .bi b cs => match e with
      | .Call (.Name x _) [a] [] _ => match cs with
        | [ca] => decide (biN b = some x) && isGlo sc x && ckE L n sc a ca && notStar a
        | _ => false
      | _ => false
    | .bit b it => match e with
      | .Call (.Name x _) [.Call (.Attribute o y ap) [] [] cp] [] _ => match b, it with
        | .sorted, .items co => decide (x = ("sorted" : Str)) && isGlo sc x && decide (y = ("items" : Str)) && ckE L n sc o co && notCall0 o && (ap.endLine == cp.line)
        | _, _ => false
      | _ => false
    | .meth m co cs => match e with
      | .Call (.Attribute o x ap) args [] cp => decide (mthN m = some x) && ckE L n sc o co && all2 (ckE L n sc) args cs && args.all notStar && !args.isEmpty && decide (args.length < 29) && notCall0 o && (ap.endLine == cp.line)
      | _ => false
    | .comp gs ce => match e with
      | .ListComp elt [⟨tg, iter, ifs, 0⟩] scope _ => match gs with
        | [.mk t it cifs] => ckI sc (ckE L n sc) iter it && blkC L.N sc scope (ownL L t.slots) && ckT L (relS scope sc) (cellB scope) tg t && ckTs (ckE L n (relS scope sc)) ifs cifs && ckE L n (relS scope sc) elt ce && notSet iter
        | _ => false
      | .ListComp elt [⟨tg, iter, ifs, 0⟩, ⟨tg1, iter1, ifs1, 0⟩] scope _ => match gs with
        | [.mk t it cifs, .mk t1 it1 cifs1] => ckI sc (ckE L n sc) iter it && blkC L.N sc scope (ownL L (t.slots ++ t1.slots)) && ckT L (relS scope sc) (cellB scope) tg t && ckTs (ckE L n (relS scope sc)) ifs cifs &&
          ckI (relS scope sc) (ckE L n (relS scope sc)) iter1 it1 && ckT L (relS scope sc) (cellB scope) tg1 t1 && ckTs (ckE L n (relS scope sc)) ifs1 cifs1 && ckE L n (relS scope sc) elt ce && notSet iter && notSet iter1
        | _ => false
      | _ => false
section
variable {X : Cx} {cf : CallF} {gl : Nat → Option PV} {s : Shared} {H0 : Hp} {scope : Scope} {cenv : Env} {fp : List Addr}
theorem EnvOk.blk {Z : Sit} {σ : L2.St} {H : Hp} {env : EnvV} (h : EnvOk X Z σ H env) : EnvOk (X.blk s H0 scope cenv fp) Z σ H env := ⟨h.len, h.get⟩
theorem Post.unblk {Z : Sit} {H : Hp} {tv pv : List Nat} {fr : Bool} {r : PV} {S' : Store} {v : V} {H' : Hp} (p : Post (X.blk s H0 scope cenv fp) Z H tv pv fr r S' v H') : Post X Z H tv pv fr r S' v H' := ⟨p.xt, p.st, p.rz, p.rt, p.fr⟩
theorem pe_blk {e : Expr} {c : CE} (h : PE (X.blk s H0 scope cenv fp) e (tEv (X.blk s H0 scope cenv fp) cf gl c)) : PE (X.blk s H0 scope cenv fp) e (tEv X cf gl c) := h.to fun σ H Q ⟨Z, env, S, r, S', e, st, eo, q⟩ => ⟨Z, env, S, r, S', e, st, eo.blk, fun v H' p => q v H' p.unblk⟩
theorem pts_blk {es : List Expr} {cs : List CE} (h : PTs (X.blk s H0 scope cenv fp) es (tTests (X.blk s H0 scope cenv fp) cf gl cs)) : PTs (X.blk s H0 scope cenv fp) es (tTests X cf gl cs) := h.to fun σ H Q ⟨Z, env, S, b, S', e, st, eo, q⟩ => ⟨Z, env, S, b, S', e, st, eo.blk, q⟩
theorem pi_blk {tg e : Expr} {it : IT} (h : PI (X.blk s H0 scope cenv fp) tg e (tIt (X.blk s H0 scope cenv fp) cf gl it)) : PI (X.blk s H0 scope cenv fp) tg e (tIt X cf gl it) := h.to fun σ H R ⟨Z, env, S, l, S', e, st, eo, q⟩ => ⟨Z, env, S, l, S', e, st, eo.blk, fun J H1 ps p => q J H1 ps ⟨p.xt, p.st, fun x m => ⟨(p.ok x m).rz, (p.ok x m).rt⟩, p.feeds, p.val⟩⟩
end
section
variable {L : Lg} {sc : Scope} {fnb : Str → Bool} {X : Cx} {cf : CallF} {gl : Nat → Option PV}
theorem Fx.blk (F : Fx L sc fnb X cf gl) {scope : Scope} {s : Shared} {H : Hp} {C : Addr} {cl : List (Str × Addr)} {fp : List Addr} : Fx L (relS scope sc) (cellB scope) (X.blk s H scope (compEnvC scope cl C X.env) fp) cf gl :=
  ⟨F.N, F.nd, by rw [← F.sc]; rfl, fun x h => h, F.calm, F.hu, F.bi, F.fn, F.glo⟩
theorem Fx.hu64 (F : Fx L sc fnb X cf gl) : X.A.units + 64 < cLine := by have := F.hu; omega
theorem Fx.gl' (F : Fx L sc fnb X cf gl) {x : Str} (h : isGlo sc x = true) : Gl X x := by
  show X.env.scope.names.lookup x = _
  rw [F.sc]
  exact glo_ok h
theorem Fx.pg1 (F : Fx L sc fnb X cf gl) {x : Str} {p : Pos} {i : Nat} (h : (nmAt L i x && loc sc x && (fnb x || isLocal sc x)) = true) : PG X (.Name x p) (gName i) := by
  simp only [Bool.and_eq_true, Bool.or_eq_true] at h
  obtain ⟨⟨h1, h2⟩, h3⟩ := h
  refine pg_name (by rw [F.N]; exact F.nd) (by rw [F.N]; exact of_decide_eq_true h1) (by rw [F.sc]; exact loc_ok h2) ?_
  rcases h3 with h3 | h3
  · exact .inl (F.fnb x h3)
  · exact .inr (by rw [F.sc]; exact local_ok h3)
theorem each_name {e : Expr} {es : List Expr} {env : Env} (h : notStar e = true) : assignEach (e :: es) env = (false, assign e env) :: assignEach es env := by
  cases e <;> first | rfl | cases h
theorem Fx.pgs (F : Fx L sc fnb X cf gl) : ∀ {es : List Expr} {is : List Nat}, all2 (fun e i => match e with
    | .Name x _ => nmAt L i x && loc sc x && (fnb x || isLocal sc x)
    | _ => false) es is = true → PGs X es (gSeq is) ∧ (assignEach es X.env).length = is.length ∧ (assignEach es X.env).findIdx? (·.1) = none
  | [], [], _ => ⟨pgs_nil, rfl, rfl⟩
  | e :: es, i :: is, h => by
    obtain ⟨h1, h2⟩ := Bool.and_eq_true_iff.mp (show (_ && all2 _ es is) = true from h)
    obtain ⟨k1, k2, k3⟩ := F.pgs h2
    cases e <;> first | (cases h1; done) | skip
    rename_i x p
    refine ⟨pgs_cons (F.pg1 h1) k1 (by rw [each_name rfl] <;> rfl), ?_, ?_⟩
    · rw [each_name rfl, List.length_cons, List.length_cons, k2]
    · rw [each_name rfl, List.findIdx?_cons, k3]
      rfl
  | [], _ :: _, h => by cases h
  | _ :: _, [], h => by cases h
theorem Fx.pg (F : Fx L sc fnb X cf gl) {e : Expr} {t : Tgt} (h : ckT L sc fnb e t = true) : PG X e (gT X.K t) := by
  unfold ckT at h
  split at h
  · exact F.pg1 h
  · obtain ⟨k1, k2, k3⟩ := F.pgs h
    exact pg_tup F.calm k1 k2 k3
  · cases h
theorem set_it {iter : Expr} (h : notSet iter = true) (env : Env) : ∀ x, foldedSetIterable iter env x = pure x := fun x => by
  cases iter <;> first | rfl | cases h
theorem own_ix (is : List Nat) : (ownL L is).map (·.2) = is := by
  unfold ownL
  rw [List.map_map]
  show is.map (fun i => i) = is
  exact List.map_id' _
theorem ci_any (F : Fx L sc fnb X cf gl) {p : Expr → CE → Bool} (hp : ∀ e c, p e c = true → PE X e (tEv X cf gl c)) {e : Expr} {it : IT} (tg : Expr) (h : ckI sc p e it = true) : PI X tg e (tIt X cf gl it) := by
  unfold ckI at h
  split at h
  · rename_i x p1 args p2 cs
    simp only [Bool.and_eq_true, decide_eq_true_eq] at h
    obtain ⟨⟨⟨⟨h1, h2⟩, h3⟩, h4⟩, h5, h6⟩ := h
    subst h1
    have hg := F.gl' h2
    have hm : X.mg "range" = none := F.bi _ (by decide)
    have pa : PEL X cf gl args cs := all2_paired hp h3
    have ha := ce_args pa h4
    match args, cs, pa with
    | [a], [ca], _ =>
      have hs : notStar a = true := by simpa using h4
      exact ci_rng1 hg hm ha (starEach_cons hs)
    | [a, b], [ca, cb], _ =>
      have hs : notStar a = true ∧ notStar b = true := by simpa using h4
      exact ci_rng2 hg hm ha (by rw [starEach_cons hs.1, starEach_cons hs.2] <;> rfl) (by rw [starEach_cons hs.2] <;> rfl)
    | [a, b, c], [ca, cb, cc], _ =>
      have hs : notStar a = true ∧ notStar b = true ∧ notStar c = true := by simpa using h4
      exact ci_rng3 hg hm ha (starEach_cons hs.1) (bplain (by simp [hs.2.1, hs.2.2]))
    | [], _, _ => exact absurd h5 (by simp)
    | _ :: _ :: _ :: _ :: _, _, _ => exact absurd h6 (by simp)
  · exact ci_val (hp _ _ h)
  · cases h
theorem pts_any (F : Fx L sc fnb X cf gl) {p : Expr → CE → Bool} (hp : ∀ e c, p e c = true → PT X e (tEvT X cf gl c)) {es : List Expr} {cs : List CE} (h : ckTs p es cs = true) : PTs X es (tTests X cf gl cs) := by
  unfold ckTs at h
  split at h
  · exact ts_nil
  · exact ts_one (hp _ _ h)
  · cases h
def valued : Expr → Bool
  | .UnaryOp .Not _ _ => false
  | .BoolOp _ _ _ => false
  | .IfExp _ _ _ _ => false
  | .Compare _ _ _ _ => false
  | _ => true
theorem isTrue_val {e : Expr} {env : Env} (h : valued e = true) : ∀ whole, isTrue e env whole = (do let v ← whole; standAt e.pos; holding [v] (truthy v)) := fun whole => by
  cases e <;> first | rfl | (cases h; done) | skip
  rename_i op _ _
  cases op <;> first | rfl | cases h
theorem ppl_any {p : Expr → CE → Bool} (hp : ∀ e c, p e c = true → PE X e (tEv X cf gl c)) : ∀ {ks : List (Option Expr)} {vs : List Expr} {cs : List CE}, ckKV p ks vs cs = true → PPL X cf gl ks vs cs
  | [], [], [], _ => .nil
  | some k :: ks, v :: vs, ck :: cv :: cs, h => by
    simp only [ckKV, Bool.and_eq_true] at h
    exact .cons (hp _ _ h.1.1) (hp _ _ h.1.2) (ppl_any hp h.2)
  | none :: _, _, _, h => by simp [ckKV] at h
  | [], _ :: _, _, h => by simp [ckKV] at h
  | [], [], _ :: _, h => by simp [ckKV] at h
  | some _ :: _, [], _, h => by simp [ckKV] at h
  | some _ :: _, _ :: _, [], h => by simp [ckKV] at h
  | some _ :: _, _ :: _, [_], h => by simp [ckKV] at h
theorem po_any {p : Expr → CE → Bool} (hp : ∀ e c, p e c = true → PE X e (tEv X cf gl c)) {o : Option Expr} {c : Option CE} (h : ckO p o c = true) : PO X o (tEvO X cf gl c) := by
  unfold ckO at h
  split at h
  · exact co_none
  · exact co_some (hp _ _ h)
  · cases h
theorem ce_gl {g : Nat} {x : Str} {pos : Pos} {s : List Nat} {t : Tok} (hg : Gl X x) (h1 : gl g = some (.str s)) (h2 : X.mg x = some (.str (toS s) t)) (hl : s.length ≤ sizeLine) (hd : (x == ("__debug__" : Str)) = false) : PE X (.Name x pos) (tEv X cf gl (.gl g)) :=
  (pe_glob (v := .str (toS s)) hg h2 ⟨_, rfl⟩ hd).to fun σ H Q ⟨Z, env, S, r, S', e, st, eo, q⟩ => by
    simp only [Ev.evE, h1, Ev.Res.ofOpt_some, Res.ok_bind] at e
    cases e
    exact q _ _ (.atom st (.str s hl) rfl)
theorem ce_bi1 (F : Fx L sc fnb X cf gl) {b : Ev.Bi} {x : Str} {p pos : Pos} {a : Expr} {ca : CE} (hb : biN b = some x) (hg : isGlo sc x = true) (ha : PE X a (tEv X cf gl ca)) (hs : notStar a = true) : PE X (.Call (.Name x p) [a] [] pos) (tEv X cf gl (.bi b [ca])) := by
  have hG := F.gl' hg
  have hc := F.calm
  have hu := F.hu
  have hu6 := F.hu64
  cases b <;> simp [biN, biT, biB] at hb <;> subst hb
  · exact ce_biB (id := "len") (fun al P => b_len) hG (F.bi _ (by decide)) (by decide +kernel) ha hs (by decide) (by decide)
  · exact ce_biT (T := "tuple") (fun al P => b_tuple) hG (F.bi _ (by decide)) (by decide +kernel) ha hs (by decide) (by decide)
  · exact ce_biT (T := "list") (fun al P => b_list) hG (F.bi _ (by decide)) (by decide +kernel) ha hs (by decide) (by decide)
  · exact ce_biT (T := "dict") (fun al P => b_dict hc hu6) hG (F.bi _ (by decide)) (by decide +kernel) ha hs (by decide) (by decide)
  · exact ce_biB (id := "sorted") (fun al P => b_sorted hc hu) hG (F.bi _ (by decide)) (by decide +kernel) ha hs (by decide) (by decide)
  · exact ce_biB (id := "sum") (fun al P => b_sum hc) hG (F.bi _ (by decide)) (by decide +kernel) ha hs (by decide) (by decide)
  · exact ce_biB (id := "min") (fun al P => b_min hc hu) hG (F.bi _ (by decide)) (by decide +kernel) ha hs (by decide) (by decide)
  · exact ce_biB (id := "max") (fun al P => b_max hc hu) hG (F.bi _ (by decide)) (by decide +kernel) ha hs (by decide) (by decide)
  · exact ce_biB (id := "all") (fun al P => b_all hc) hG (F.bi _ (by decide)) (by decide +kernel) ha hs (by decide) (by decide)
  · exact ce_biB (id := "any") (fun al P => b_any hc) hG (F.bi _ (by decide)) (by decide +kernel) ha hs (by decide) (by decide)
  · exact ce_biT (T := "int") (fun al P => b_int) hG (F.bi _ (by decide)) (by decide +kernel) ha hs (by decide) (by decide)
  · exact ce_biB (id := "abs") (fun al P => b_abs) hG (F.bi _ (by decide)) (by decide +kernel) ha hs (by decide) (by decide)
end
end EvB
end

section
set_option autoImplicit false
set_option Elab.async false
set_option linter.all false
set_option maxRecDepth 100000
set_option maxHeartbeats 4000000
/-! the checker of expressions is right -/
namespace EvB
open PySem PySem.Spec PyProof.Rows L2
open Ev (PV Store Res EnvV CallF CE CS IT Tgt Gen)
section
variable {L : Lg} {cf : CallF} {gl : Nat → Option PV}
abbrev Both (X : Cx) (cf : CallF) (gl : Nat → Option PV) (e : Expr) (c : CE) : Prop := PE X e (tEv X cf gl c) ∧ PT X e (tEvT X cf gl c)
theorem both_val {X : Cx} {e : Expr} {c : CE} (h : PE X e (tEv X cf gl c)) (v : valued e = true) : Both X cf gl e c := ⟨h, ct_val h (isTrue_val v)⟩
theorem slc_hline : True := trivial
theorem ck_ok : ∀ (n : Nat) {sc : Scope} {fnb : Str → Bool} {X : Cx}, Fx L sc fnb X cf gl → ∀ (e : Expr) (c : CE), ckE L n sc e c = true → Both X cf gl e c
  | 0, _, _, _, _, _, _, h => by cases h
  | n + 1, sc, fnb, X, F, e, c, h => by
    have ih : ∀ e c, ckE L n sc e c = true → PE X e (tEv X cf gl c) := fun e c h => (ck_ok n F e c h).1
    have iht : ∀ e c, ckE L n sc e c = true → PT X e (tEvT X cf gl c) := fun e c h => (ck_ok n F e c h).2
    have hu := F.hu
    have hu6 := F.hu64
    have hc := F.calm
    unfold ckE at h
    cases c with
    | slot i =>
      dsimp only at h
      split at h
      · rename_i x p
        simp only [Bool.and_eq_true] at h
        obtain ⟨⟨h1, h2⟩, h3⟩ := h
        obtain ⟨n1, n2, n3⟩ := nmOk_ok h3
        exact both_val (ce_slot (pe_var (by rw [F.N]; exact of_decide_eq_true h1) (by rw [F.sc]; exact vis_ok h2) n1 n2)) rfl
      · cases h
    | gl g =>
      dsimp only at h
      split at h
      · rename_i x p
        simp only [Bool.and_eq_true, decide_eq_true_eq] at h
        obtain ⟨⟨h1, h2⟩, h3⟩ := h
        obtain ⟨n1, n2, n3⟩ := nmOk_ok h3
        obtain ⟨s, t, k1, k2, k3⟩ := F.glo g x h1
        exact both_val (ce_gl (F.gl' h2) k1 k2 k3 n1) rfl
      · cases h
    | int i =>
      dsimp only at h
      split at h
      · cases of_decide_eq_true h
        exact both_val ce_int rfl
      · cases h
    | bl i =>
      dsimp only at h
      split at h
      · cases of_decide_eq_true h
        exact both_val ce_bl rfl
      · cases h
    | non =>
      dsimp only at h
      split at h
      · exact both_val ce_non rfl
      · cases h
    | str s =>
      dsimp only at h
      split at h
      · simp only [Bool.and_eq_true, decide_eq_true_eq] at h
        obtain ⟨rfl, h2⟩ := h
        exact both_val (ce_str (Nat.le_trans h2 (by decide))) rfl
      · cases h
    | tup cs =>
      dsimp only at h
      split at h
      · obtain ⟨h1, h2⟩ := Bool.and_eq_true_iff.mp h
        exact both_val (ce_tup (ce_args (all2_paired ih h1) h2)) rfl
      · cases h
    | lst cs =>
      dsimp only at h
      split at h
      · obtain ⟨h1, h2⟩ := Bool.and_eq_true_iff.mp h
        exact both_val (ce_lst (ce_args (all2_paired ih h1) h2)) rfl
      · cases h
    | dic cs =>
      dsimp only at h
      split at h
      · rename_i ks vs p
        obtain ⟨h1, h2⟩ := Bool.and_eq_true_iff.mp h
        have pp := ppl_any ih h1
        cases ks with
        | nil =>
          cases pp
          exact both_val ce_dic0 rfl
        | cons k ks => exact both_val (ce_dic pp (by simp) (of_decide_eq_true h2)) rfl
      · cases h
    | bin o ca cb =>
      dsimp only at h
      split at h
      · simp only [Bool.and_eq_true, decide_eq_true_eq] at h
        obtain ⟨⟨rfl, h1⟩, h2⟩ := h
        exact both_val (ce_bin (ih _ _ h1) (ih _ _ h2)) rfl
      · cases h
    | neg ca =>
      dsimp only at h
      split at h
      · exact both_val (ce_neg (ih _ _ h)) rfl
      · cases h
    | not ca =>
      dsimp only at h
      split at h
      · exact ⟨ce_not (ih _ _ h), ct_not (iht _ _ h)⟩
      · cases h
    | and cs =>
      dsimp only at h
      split at h
      · refine ⟨(ce_andL (all2_paired ih h)).to fun σ H Q ⟨Z, env, S, r, S', e, q⟩ => ⟨Z, env, S, r, S', by simpa only [Ev.evE] using e, ?_⟩, ((ct_andL (all2_paired iht h)).pt).to fun σ H Q ⟨Z, env, S, r, S', b, e, q⟩ => ⟨Z, env, S, r, S', b, by simpa only [Ev.evE] using e, q⟩⟩
        simpa only [CE.tv, CE.pv, CE.fresh] using q
      · cases h
    | or cs =>
      dsimp only at h
      split at h
      · refine ⟨(ce_orL (all2_paired ih h)).to fun σ H Q ⟨Z, env, S, r, S', e, q⟩ => ⟨Z, env, S, r, S', by simpa only [Ev.evE] using e, ?_⟩, ((ct_orL (all2_paired iht h)).pt).to fun σ H Q ⟨Z, env, S, r, S', b, e, q⟩ => ⟨Z, env, S, r, S', b, by simpa only [Ev.evE] using e, q⟩⟩
        simpa only [CE.tv, CE.pv, CE.fresh] using q
      · cases h
    | ite cc ca cb =>
      dsimp only at h
      split at h
      · simp only [Bool.and_eq_true] at h
        exact ⟨ce_ite (iht _ _ h.1.1) (ih _ _ h.1.2) (ih _ _ h.2), ct_ite (iht _ _ h.1.1) (iht _ _ h.1.2) (iht _ _ h.2)⟩
      · cases h
    | cmp o ca cb =>
      dsimp only at h
      split at h
      · simp only [Bool.and_eq_true, decide_eq_true_eq] at h
        obtain ⟨⟨⟨rfl, h1⟩, h2⟩, h3⟩ := h
        exact ⟨ce_cmp hu6 (ih _ _ h1) (ih _ _ h2) h3, ct_cmp hu6 (ih _ _ h1) (ih _ _ h2) h3⟩
      · cases h
    | chain o1 o2 ca cb cc =>
      dsimp only at h
      split at h
      · simp only [Bool.and_eq_true, decide_eq_true_eq] at h
        obtain ⟨⟨⟨⟨⟨rfl, rfl⟩, h1⟩, h2⟩, h3⟩, h4⟩ := h
        exact ⟨ce_chain hu6 (ih _ _ h1) (ih _ _ h2) (ih _ _ h3) h4, ct_chain hu6 (ih _ _ h1) (ih _ _ h2) (ih _ _ h3) h4⟩
      · cases h
    | idx ca ci =>
      dsimp only at h
      split at h
      · simp only [Bool.and_eq_true] at h
        exact both_val (ce_idx hu6 (ih _ _ h.1.1) (ih _ _ h.1.2) h.2) rfl
      · cases h
    | rev ca =>
      dsimp only at h
      split at h
      · simp only [Bool.and_eq_true, decide_eq_true_eq] at h
        obtain ⟨rfl, h1⟩ := h
        exact both_val (ce_rev (ih _ _ h1)) rfl
      · cases h
    | slc ca lo hi =>
      dsimp only at h
      split at h
      · simp only [Bool.and_eq_true] at h
        exact both_val (ce_slc (ih _ _ h.1.1) (po_any ih h.1.2) (po_any ih h.2)) rfl
      · cases h
    | call f cs =>
      dsimp only at h
      split at h
      · rename_i x p1 args p2
        simp only [Bool.and_eq_true, decide_eq_true_eq] at h
        obtain ⟨⟨⟨⟨⟨h1, h2⟩, h3⟩, h4⟩, h5⟩, h6⟩ := h
        obtain ⟨n1, n2, n3⟩ := nmOk_ok h3
        obtain ⟨k, np, fa, fd, ps, k1, k2, k3, k4, k5, k6⟩ := F.fn f x h1
        have pa : PEL X cf gl args cs := all2_paired ih h4
        have ha := ce_args pa h5
        match args, cs, pa with
        | [], _, _ => simp at h6
        | a :: args, c :: cs, _ => exact both_val (ce_call k1 k2 (F.gl' h2) k3 k4 k5 ha k6 n1 h5) rfl
      · cases h
    | isi t ca =>
      dsimp only at h
      split at h
      · simp only [Bool.and_eq_true, decide_eq_true_eq] at h
        obtain ⟨⟨⟨⟨⟨rfl, h2⟩, rfl⟩, h4⟩, h5⟩, h6⟩ := h
        refine both_val (ce_isi (F.gl' h2) (F.bi _ (by decide)) (by decide +kernel) (F.gl' h4) (F.bi _ ?_) ?_ (ih _ _ h5) h6 ?_ ?_) rfl
        · cases t <;> decide
        · cases t <;> decide +kernel
        · cases t <;> decide
        · cases t <;> decide
      · cases h
    | sset ca =>
      dsimp only at h
      split at h
      · simp only [Bool.and_eq_true, decide_eq_true_eq] at h
        obtain ⟨⟨⟨⟨⟨rfl, h2⟩, rfl⟩, h4⟩, h5⟩, h6⟩ := h
        exact both_val (ce_sset hc hu (F.gl' h2) (F.bi _ (by decide)) (F.gl' h4) (F.bi _ (by decide)) (ih _ _ h5) h6) rfl
      · cases h
    | lset ca =>
      dsimp only at h
      split at h
      · simp only [Bool.and_eq_true, decide_eq_true_eq] at h
        obtain ⟨⟨⟨⟨⟨rfl, h2⟩, rfl⟩, h4⟩, h5⟩, h6⟩ := h
        exact both_val (ce_lset hc hu (F.gl' h2) (F.bi _ (by decide)) (F.gl' h4) (F.bi _ (by decide)) (ih _ _ h5) h6) rfl
      · cases h
    | bi b cs =>
      dsimp only at h
      split at h
      · split at h
        · simp only [Bool.and_eq_true, decide_eq_true_eq] at h
          obtain ⟨⟨⟨h1, h2⟩, h3⟩, h4⟩ := h
          exact both_val (ce_bi1 F h1 h2 (ih _ _ h3) h4) rfl
        · cases h
      · cases h
    | bit b it =>
      dsimp only at h
      split at h
      · split at h
        · simp only [Bool.and_eq_true, decide_eq_true_eq] at h
          obtain ⟨⟨⟨⟨⟨rfl, h2⟩, rfl⟩, h4⟩, h5⟩, h6⟩ := h
          exact both_val (ce_items hc hu (F.gl' h2) (F.bi _ (by decide)) (ih _ _ h4) h5 h6) rfl
        · cases h
      · cases h
    | meth m co cs =>
      dsimp only at h
      split at h
      · rename_i o x ap args cp
        simp only [Bool.and_eq_true, decide_eq_true_eq] at h
        obtain ⟨⟨⟨⟨⟨⟨⟨h1, h2⟩, h3⟩, h4⟩, h5⟩, h6⟩, h7⟩, h8⟩ := h
        have pa : PEL X cf gl args cs := all2_paired ih h3
        have ha := ce_args pa h4
        match args, cs, pa with
        | [], _, _ => simp at h5
        | a :: args, c :: cs, _ =>
          cases m <;> simp [mthN] at h1 <;> subst h1
          · exact both_val (ce_meth (m := .get) (id := "dict.get") (fun al P => m_get hu6) PySem.F.plainAttrs_dict PySem.F.slot_dict_get PySem.F.type_dict_get (ih _ _ h2) ha h7 h4 h6 h8) rfl
          · exact both_val (ce_meth (m := .count) (id := "list.count") (fun al P => m_count hu) PySem.F.plainAttrs_list PySem.F.slot_list_count PySem.F.type_list_count (ih _ _ h2) ha h7 h4 h6 h8) rfl
      · cases h
    | comp gs ce =>
      dsimp only at h
      split at h
      · split at h
        · rename_i elt tg iter ifs scope p gs t it cifs
          simp only [Bool.and_eq_true] at h
          obtain ⟨⟨⟨⟨⟨h1, h2⟩, h3⟩, h4⟩, h5⟩, h6⟩ := h
          refine both_val (ce_comp1 (own := ownL L t.slots) hc (by rw [F.N]; exact F.nd) (ci_any F ih tg h1) (by rw [F.N, F.sc]; exact blkOk_by h2) (by rw [own_ix]; exact fun _ m => m) (by rw [own_ix]; exact fun _ m => m) (fun s H C cl fp => F.blk.pg h3) (fun s H C cl fp => pts_blk (pts_any F.blk (fun e c h => (ck_ok n F.blk e c h).2) h4)) (fun s H C cl fp => pe_blk (ck_ok n F.blk _ _ h5).1) (set_it h6 _)) rfl
        · cases h
      · split at h
        · rename_i elt tg iter ifs tg1 iter1 ifs1 scope p gs t it cifs t1 it1 cifs1
          simp only [Bool.and_eq_true] at h
          obtain ⟨⟨⟨⟨⟨⟨⟨⟨⟨h1, h2⟩, h3⟩, h4⟩, h5⟩, h6⟩, h7⟩, h8⟩, h9⟩, h10⟩ := h
          refine both_val (ce_comp2 (own := ownL L (t.slots ++ t1.slots)) hc (by rw [F.N]; exact F.nd) (ci_any F ih tg h1) (by rw [F.N, F.sc]; exact blkOk_by h2) (by rw [own_ix]; exact fun _ m => m) (by rw [own_ix]; exact fun _ m => m) (fun s H C cl fp => F.blk.pg h3) (fun s H C cl fp => pts_blk (pts_any F.blk (fun e c h => (ck_ok n F.blk e c h).2) h4))
            (fun s H C cl fp => pi_blk (ci_any F.blk (fun e c h => (ck_ok n F.blk e c h).1) tg1 h5)) (fun s H C cl fp => F.blk.pg h6) (fun s H C cl fp => pts_blk (pts_any F.blk (fun e c h => (ck_ok n F.blk e c h).2) h7)) (fun s H C cl fp => pe_blk (ck_ok n F.blk _ _ h8).1) (set_it h9 _) (fun env => set_it h10 env)) rfl
        · cases h
      · cases h
end
end EvB
end

section
set_option autoImplicit false
set_option Elab.async false
set_option linter.all false
set_option maxRecDepth 100000
set_option maxHeartbeats 4000000
/-! the checker of statements -/
namespace EvB
open PySem PySem.Spec PyProof.Rows L2
open Ev (PV Store Res EnvV CallF CE CS IT Tgt Gen)
def notComp : Expr → Bool
  | .ListComp _ _ _ _ => false
  | .SetComp _ _ _ _ => false
  | .DictComp _ _ _ _ _ => false
  | _ => true
def isLC : Expr → Bool
  | .ListComp _ _ _ _ => true
  | _ => false
def swapsB (sc : Scope) (y : Str) (q : Pos) : Expr → Bool
  | .ListComp _ _ scope p => isLocal sc y && (q.line == p.line) && !(scope.names.any fun (n, k) => n == y && (k == .local || k == .cell))
  | _ => false
theorem swap_comp {elt : Expr} {gs : List Comprehension} {scope : Scope} {p q : Pos} {y : Str} {l : Nat} {env : Env} (hk : isFn env.scope = true) :
    swapsWith (.ListComp elt gs scope p) (some (.Name y q)) l env = pure (swapsB env.scope y q (.ListComp elt gs scope p)) := by
  have hb : env.blockKind = .function := by unfold Env.blockKind; rw [fn_kind hk]; rfl
  have e : swapsWith (.ListComp elt gs scope p) (some (.Name y q)) l env = pure (env.blockKind == .function && env.kindOf y == some .local && q.line == p.line && !(scope.names.any fun (n, k) => n == y && (k == .local || k == .cell))) := rfl
  rw [e, hb]
  unfold swapsB isLocal
  have : (env.kindOf y == some NameKind.local) = (match env.scope.names.lookup y with
    | some .local => true | _ => false) := by
    unfold Env.kindOf
    cases env.scope.names.lookup y with
    | none => rfl
    | some k => cases k <;> rfl
  rw [this]
  rfl
theorem swap_not {e : Expr} {y : Str} {q : Pos} {l : Nat} {env : Env} (h : notComp e = true) : swapsWith e (some (.Name y q)) l env = pure false := by
  cases e <;> first | rfl | cases h
def nmId : Expr → Nat → Scope → Option Str
  | .Name id p, line, sc => if isLocal sc id && p.line == line then some id else none
  | _, _, _ => none
def namesOf (sc : Scope) (ts : List Expr) : List Str := ts.filterMap fun t => nmId t ((ts.head?.map (·.pos.line)).getD 0) sc
def swapNames (sc : Scope) (ts vs : List Expr) : Option (Option (List Str)) :=
  if !(ts.length == 2 || ts.length == 3) || vs.length != ts.length then some none
  else if vs.all notStar then
    if (namesOf sc ts).length != ts.length || (namesOf sc ts).eraseDups.length != (namesOf sc ts).length then some none
    else if vs.all (foldedForSure 8) then some none
    else if vs.all (constantsAlone 8) then none
    else some (some (namesOf sc ts))
  else none
theorem swapNames_ok {ts vs : List Expr} {k k2 : Nat} {p p2 : Pos} {env : Env} {r : Option (List Str)} (hk : isFn env.scope = true) (h : swapNames env.scope ts vs = some r) : swappedStores [.Tuple ts k p] (.Tuple vs k2 p2) env = pure r := by
  have hb : env.blockKind = .function := by unfold Env.blockKind; rw [fn_kind hk]; rfl
  have hq : ∀ id, (env.kindOf id == some NameKind.local) = isLocal env.scope id := fun id => by
    unfold Env.kindOf isLocal
    cases env.scope.names.lookup id with
    | none => rfl
    | some k => cases k <;> rfl
  have hm : ∀ f : Expr → Option Str, (∀ t, f t = nmId t ((ts.head?.map (·.pos.line)).getD 0) env.scope) → ts.filterMap f = namesOf env.scope ts := fun f hf => congrArg (fun g => ts.filterMap g) (funext hf)
  have hs : ∀ f : Expr → Bool, (∀ e, notStar e = true → f e = false) → vs.all notStar = true → vs.any f = false := fun f hf q => by
    rw [List.any_eq_false]
    intro e he
    rw [hf e (List.all_eq_true.mp q e he)]
    exact Bool.false_ne_true
  unfold swapNames at h
  unfold swappedStores
  dsimp only
  rw [hb]
  simp only [bne_self_eq_false, Bool.or_false]
  split at h
  · rename_i c
    cases h
    rw [if_pos c] <;> rfl
  · rename_i c
    rw [if_neg c]
    split at h
    · rename_i c2
      rw [hs _ (by intro e he; cases e <;> first | rfl | cases he) c2]
      simp only [Bool.false_eq_true, if_false, pure_bind]
      rw [hm _ (by
        intro t
        cases t <;> first | rfl | skip
        rename_i id pos
        show (if (env.kindOf id == some NameKind.local && pos.line == (ts.head?.map (·.pos.line)).getD 0) = true then some id else none) = if (isLocal env.scope id && pos.line == (ts.head?.map (·.pos.line)).getD 0) = true then some id else none
        rw [hq])]
      split at h
      · rename_i c3
        cases h
        rw [if_pos c3] <;> rfl
      · rename_i c3
        rw [if_neg c3]
        split at h
        · rename_i c4
          cases h
          rw [if_pos c4] <;> rfl
        · rename_i c4
          rw [if_neg c4]
          split at h
          · cases h
          · rename_i c5
            cases h
            rw [if_neg c5] <;> rfl
    · cases h
def ckPar (L : Lg) (sc : Scope) (fnb : Str → Bool) (ts vs : List Expr) (is : List Nat) : Bool := match swapNames sc ts vs with
  | some none => ckT L sc fnb (.Tuple ts 0 ⟨0, 0, 0, 0⟩) (.tp is)
  | some (some ns) => all2 (fun i n => nmAt L i n && isLocal sc n) is ns && decide is.Nodup
  | none => false
def mutOk (m : Ev.Mut) : Bool := match m with
  | .remove => false | _ => true
def ckS (L : Lg) : Nat → Scope → Stmt → CS → Bool
  | 0, _, _, _ => false
  | n + 1, sc, st, c => match c with
    | .set i ce => match st with
      | .Assign [.Name y q] e _ => nmAt L i y && loc sc y && decide (i < L.N.length) && ckE L n sc e ce && isFn sc && (notComp e || isLC e)
      | _ => false
    | .cell i ce => match st with
      | .Assign [.Name y q] e _ => nmAt L i y && loc sc y && decide (i < L.N.length) && ckE L n sc e ce && notComp e
      | _ => false
    | .par is cs => match st with
      | .Assign [.Tuple ts _ _] (.Tuple vs _ _) _ => ckPar L sc (fun _ => true) ts vs is && isFn sc && all2 (ckE L n sc) vs cs && vs.all notStar && (is.all fun i => decide (i < L.N.length)) && decide (is.length ≤ 100)
      | _ => false
    | .parI is cs => match st with
      | .Assign [.Tuple ts _ _] (.Tuple vs _ _) _ => ckPar L sc (fun _ => true) ts vs is && isFn sc && all2 (ckE L n sc) vs cs && vs.all notStar && decide (is.length ≤ 100)
      | _ => false
    | .unp is ce => match st with
      | .Assign [.Tuple ts k p] e _ => ckT L sc (fun _ => true) (.Tuple ts k p) (.tp is) && ckE L n sc e ce && notTup e
      | _ => false
    | .put x ck ce => match st with
      | .Assign [.Subscript (.Name y q) k _] e _ => nmAt L x y && vis sc y && nmOk y && ckE L n sc k ck && notSlice k && ckE L n sc e ce
      | _ => false
    | .augi x ck op ce => match st with
      | .AugAssign (.Subscript (.Name y q) k _) o e _ => nmAt L x y && vis sc y && nmOk y && ckE L n sc k ck && notSlice k && ckE L n sc e ce && decide (o = pyB op)
      | _ => false
    | .aug i op ce => match st with
      | .AugAssign (.Name y _) o e _ => nmAt L i y && loc sc y && ckE L n sc e ce && decide (o = pyB op)
      | _ => false
    | .mut m x ce => match st with
      | .Expr (.Call (.Attribute (.Name y _) a ap) [e] [] cp) _ => nmAt L x y && vis sc y && nmOk y && decide (a = mutN m) && ckE L n sc e ce && notStar e && (ap.endLine == cp.line) && mutOk m && (decide (m ≠ .update) || !ce.tv.contains x)
      | _ => false
    | .popTo i x => match st with
      | .Assign [.Name y _] (.Call (.Attribute (.Name z _) a ap) [] [] cp) _ => nmAt L i y && loc sc y && nmAt L x z && vis sc z && nmOk z && decide (a = ("pop" : Str)) && (ap.endLine == cp.line)
      | _ => false
    | .ret ce => match st with
      | .Return (some e) _ => ckE L n sc e ce
      | _ => false
    | .retn => match st with
      | .Return none _ => true
      | _ => false
    | .ifs cc ca cb => match st with
      | .If e a b _ => ckE L n sc e cc && all2 (ckS L n sc) a ca && all2 (ckS L n sc) b cb
      | _ => false
    | .whil cc cb => match st with
      | .While e b [] _ => ckE L n sc e cc && all2 (ckS L n sc) b cb
      | _ => false
    | .for t it cb => match st with
      | .For tg iter b [] _ => ckT L sc (fun _ => true) tg t && ckI sc (ckE L n sc) iter it && notSet iter && all2 (ckS L n sc) b cb
      | _ => false
    | .cont => match st with
      | .Continue _ => true
      | _ => false
    | .brk => match st with
      | .Break _ => true
      | _ => false
    | .pass => match st with
      | .Pass _ => true
      | _ => false
    | .doc => match st with
      | .Expr (.Constant (.str _) _ _) _ => true
      | _ => false
section
variable {L : Lg} {sc : Scope} {X : Cx} {cf : CallF} {gl : Nat → Option PV} {W : Nat}
theorem upA {st : Stmt} {i : Nat} {ce : CE} (h : PS X st (tAsg (tEv X cf gl ce) (gName i))) : PS X st (tAsg (tEvA X cf gl ce) (gName i)) := by
  refine PS_toI h fun D σ H ⟨Z, env, S, r, S', e, st, eo, q⟩ => ?_
  refine ⟨{ nx := fun σ' H' => ∃ x, σ' = σ.set i (some x) ∧ Post X Z H ce.tv ce.pv ce.fresh r S' x H', rt := D.rt, bk := D.bk, ct := D.ct }, ⟨Z, env, S, r, S', e, st, eo, fun v H' p => ⟨v, rfl, p⟩⟩, ?_, fun _ _ z => z, fun _ _ z => z, fun _ _ z => z⟩
  rintro pins s σ' H' I ⟨x, rfl, p⟩
  refine q x H' p fun P hP a ea na m rt => ?_
  subst ea
  exact rt_off I (al_mut p.st) hP na m rt
theorem cks_comp {n i : Nat} {y : Str} {q spos : Pos} {e : Expr} {ce : CE} (F : Fx L sc (fun _ => true) X cf gl) (h : ckE L n sc e ce = true) (hi : nmAt L i y = true) (hs : swapsB sc y q e = true) (hk : isFn sc = true) : PS X (.Assign [.Name y q] e spos) (tAsg (tEv X cf gl ce) (gName i)) := by
  have hl : X.env.scope.names.lookup y = some .local := by
    rw [F.sc]
    unfold swapsB at hs
    split at hs
    · simp only [Bool.and_eq_true] at hs
      exact local_ok hs.1.1
    · cases hs
  cases n with
  | zero => cases h
  | succ n =>
    have ih : ∀ e c, ckE L n sc e c = true → PE X e (tEv X cf gl c) := fun e c h => (ck_ok n F e c h).1
    have hc := F.calm
    have hN : X.N[i]? = some y := by rw [F.N]; exact of_decide_eq_true hi
    unfold swapsB at hs
    split at hs
    · rename_i elt gens scope p
      unfold ckE at h
      cases ce <;> first | (cases h; done) | skip
      rename_i gs ce
      dsimp only at h
      have sw : swapsWith (.ListComp elt gens scope p) (some (.Name y q)) spos.line X.env = pure true := by
        rw [swap_comp (by rw [F.sc]; exact hk), F.sc]
        exact congrArg pure hs
      split at h
      · rename_i h0
        injection h0 with e1 e2 e3 e4
        subst e1 e2 e3 e4
        split at h
        · rename_i t it cifs
          simp only [Bool.and_eq_true] at h
          obtain ⟨⟨⟨⟨⟨h1, h2⟩, h3⟩, h4⟩, h5⟩, h6⟩ := h
          exact cs_comp1 (own := ownL L t.slots) hc (by rw [F.N]; exact F.nd) hN hl sw (ci_any F ih _ h1) (by rw [F.N, F.sc]; exact blkOk_by h2) (by rw [own_ix]; exact fun _ m => m) (by rw [own_ix]; exact fun _ m => m) (fun s H C cl fp => F.blk.pg h3) (fun s H C cl fp => pts_blk (pts_any F.blk (fun e c h => (ck_ok n F.blk e c h).2) h4)) (fun s H C cl fp => pe_blk (ck_ok n F.blk _ _ h5).1) (set_it h6 _)
        · cases h
      · rename_i h0
        injection h0 with e1 e2 e3 e4
        subst e1 e2 e3 e4
        split at h
        · rename_i t it cifs t1 it1 cifs1
          simp only [Bool.and_eq_true] at h
          obtain ⟨⟨⟨⟨⟨⟨⟨⟨⟨h1, h2⟩, h3⟩, h4⟩, h5⟩, h6⟩, h7⟩, h8⟩, h9⟩, h10⟩ := h
          exact cs_comp2 (own := ownL L (t.slots ++ t1.slots)) hc (by rw [F.N]; exact F.nd) hN hl sw (ci_any F ih _ h1) (by rw [F.N, F.sc]; exact blkOk_by h2) (by rw [own_ix]; exact fun _ m => m) (by rw [own_ix]; exact fun _ m => m) (fun s H C cl fp => F.blk.pg h3) (fun s H C cl fp => pts_blk (pts_any F.blk (fun e c h => (ck_ok n F.blk e c h).2) h4))
            (fun s H C cl fp => pi_blk (ci_any F.blk (fun e c h => (ck_ok n F.blk e c h).1) _ h5)) (fun s H C cl fp => F.blk.pg h6) (fun s H C cl fp => pts_blk (pts_any F.blk (fun e c h => (ck_ok n F.blk e c h).2) h7)) (fun s H C cl fp => pe_blk (ck_ok n F.blk _ _ h8).1) (set_it h9 _) (fun env => set_it h10 env)
        · cases h
      · cases h
    · cases hs
theorem paired_k {α β : Type} {p : α → β → Bool} {R : α → β → Prop} {l : List α} {m : List β} (h : all2 p l m = true) (k : ∀ a b, p a b = true → R a b) : Paired R l m := all2_paired k h
theorem ckPar_ok {is : List Nat} {ts vs : List Expr} {kt k2 : Nat} {pt pt2 pos : Pos} {ta : TA} (F : Fx L sc (fun _ => true) X cf gl) (h : ckPar L sc (fun _ => true) ts vs is = true) (hk : isFn sc = true) (ha : PA X vs ta) : PS X (.Assign [.Tuple ts kt pt] (.Tuple vs k2 pt2) pos) (tParR is ta) := by
  have hk' : isFn X.env.scope = true := by rw [F.sc]; exact hk
  unfold ckPar at h
  split at h
  · rename_i e
    have hg : PG X (.Tuple ts kt pt) (gT X.K (.tp is)) := F.pg (e := .Tuple ts kt pt) (t := .tp is) h
    exact ps_apart hg ha (swapNames_ok hk' (by rw [F.sc]; exact e)) rfl
  · rename_i ns e
    obtain ⟨h1, h2⟩ := Bool.and_eq_true_iff.mp h
    refine ps_swap F.calm (by rw [F.N]; exact F.nd) (paired_k h1 fun i n hin => ?_) (of_decide_eq_true h2) ha (swapNames_ok hk' (by rw [F.sc]; exact e))
    obtain ⟨a, b⟩ := Bool.and_eq_true_iff.mp hin
    exact ⟨by rw [F.N]; exact of_decide_eq_true a, by rw [F.sc]; exact local_ok b⟩
  · cases h
theorem Fx.var (F : Fx L sc (fun _ => true) X cf gl) {x : Nat} {y : Str} {p : Pos} (h1 : nmAt L x y = true) (h2 : vis sc y = true) (h3 : nmOk y = true) : PE X (.Name y p) (tVar x) := by
  obtain ⟨n1, n2, n3⟩ := nmOk_ok h3
  exact pe_var (by rw [F.N]; exact of_decide_eq_true h1) (by rw [F.sc]; exact vis_ok h2) n1 n2
theorem pss_any {p : Stmt → CS → Bool} (hp : ∀ st c, p st c = true → PS X st (tSt X cf gl W c)) : ∀ {sts : List Stmt} {cs : List CS}, all2 p sts cs = true → PSs X sts (tBl X cf gl W cs)
  | [], [], _ => bs_nil
  | st :: sts, c :: cs, h => by
    obtain ⟨h1, h2⟩ := Bool.and_eq_true_iff.mp (show (p st c && all2 p sts cs) = true from h)
    exact bs_cons (hp _ _ h1) (pss_any hp h2)
  | [], _ :: _, h => by cases h
  | _ :: _, [], h => by cases h
theorem cks_ok (hpo : PassesOwn (model X.prog X.w) X.A X.env X.xe) (F : Fx L sc (fun _ => true) X cf gl) : ∀ (n : Nat) (st : Stmt) (c : CS), ckS L n sc st c = true → PS X st (tSt X cf gl W c)
  | 0, _, _, h => by cases h
  | n + 1, st, c, h => by
    have ih := cks_ok hpo F n
    have ie : ∀ e c, ckE L n sc e c = true → PE X e (tEv X cf gl c) := fun e c h => (ck_ok n F e c h).1
    have it : ∀ e c, ckE L n sc e c = true → PT X e (tEvT X cf gl c) := fun e c h => (ck_ok n F e c h).2
    have hu6 := F.hu64
    have hnd : X.N.Nodup := by rw [F.N]; exact F.nd
    unfold ckS at h
    cases c with
    | set i ce =>
      dsimp only at h
      split at h
      · rename_i y q e pos
        simp only [Bool.and_eq_true, decide_eq_true_eq] at h
        obtain ⟨⟨⟨⟨⟨h1, h2⟩, h3⟩, h4⟩, h5⟩, h6⟩ := h
        have hi : i < X.N.length := by rw [F.N]; exact h3
        have hN : X.N[i]? = some y := by rw [F.N]; exact of_decide_eq_true h1
        have hl : Loc X.env.scope y := by rw [F.sc]; exact loc_ok h2
        cases hs : swapsB sc y q e with
        | true => exact cs_set hi (upA (cks_comp F h4 h1 hs h5))
        | false =>
          refine cs_set hi (ps_set hnd hN hl (PE_up (ie _ _ h4)) ?_ (.inl (F.fnb y rfl)))
          by_cases hn : notComp e = true
          · exact swap_not hn
          · have : isLC e = true := by simpa [hn] using h6
            cases e <;> first | (cases this; done) | skip
            rw [swap_comp (by rw [F.sc]; exact h5), F.sc, hs]
      · cases h
    | cell i ce =>
      dsimp only at h
      split at h
      · rename_i y q e pos
        simp only [Bool.and_eq_true, decide_eq_true_eq] at h
        obtain ⟨⟨⟨⟨h1, h2⟩, h3⟩, h4⟩, h5⟩ := h
        exact cs_cell (by rw [F.N]; exact h3) (ps_set hnd (by rw [F.N]; exact of_decide_eq_true h1) (by rw [F.sc]; exact loc_ok h2) (PE_up (ie _ _ h4)) (swap_not h5) (.inl (F.fnb y rfl)))
      · cases h
    | par is cs =>
      dsimp only at h
      split at h
      · simp only [Bool.and_eq_true, decide_eq_true_eq] at h
        obtain ⟨⟨⟨⟨⟨h1, h2⟩, h3⟩, h4⟩, h5⟩, h6⟩ := h
        exact cs_par (fun i m => by rw [F.N]; exact of_decide_eq_true (List.all_eq_true.mp h5 i m)) h6 (ckPar_ok F h1 h2 (ce_par (paired_k h3 fun e c hec => PE_up (ie e c hec)) h4))
      · cases h
    | parI is cs =>
      dsimp only at h
      split at h
      · simp only [Bool.and_eq_true, decide_eq_true_eq] at h
        obtain ⟨⟨⟨⟨h1, h2⟩, h3⟩, h4⟩, h5⟩ := h
        exact cs_parI h5 (ckPar_ok F h1 h2 (ce_args (paired_k h3 fun e c hec => ie e c hec) h4))
      · cases h
    | unp is ce =>
      dsimp only at h
      split at h
      · simp only [Bool.and_eq_true] at h
        exact cs_unp (F.pg h.1.1) (ie _ _ h.1.2) h.2 rfl
      · cases h
    | put x ck ce =>
      dsimp only at h
      split at h
      · rename_i y q k tp e pos
        simp only [Bool.and_eq_true] at h
        obtain ⟨⟨⟨⟨⟨h1, h2⟩, h3⟩, h4⟩, h5⟩, h6⟩ := h
        exact cs_put hu6 (F.var h1 h2 h3) (ie _ _ h4) (ie _ _ h6) fun v => by cases k <;> first | rfl | cases h5
      · cases h
    | augi x ck op ce =>
      dsimp only at h
      split at h
      · rename_i y q k tp o e pos
        simp only [Bool.and_eq_true, decide_eq_true_eq] at h
        obtain ⟨⟨⟨⟨⟨⟨h1, h2⟩, h3⟩, h4⟩, h5⟩, h6⟩, rfl⟩ := h
        exact cs_augi hu6 (F.var h1 h2 h3) (ie _ _ h4) (ie _ _ h6) fun ov iv new => by cases k <;> first | rfl | cases h5
      · cases h
    | aug i op ce =>
      dsimp only at h
      split at h
      · rename_i y q o e pos
        simp only [Bool.and_eq_true, decide_eq_true_eq] at h
        obtain ⟨⟨⟨h1, h2⟩, h3⟩, rfl⟩ := h
        exact cs_aug hnd (by rw [F.N]; exact of_decide_eq_true h1) (by rw [F.sc]; exact loc_ok h2) (.inl (F.fnb y rfl)) (ie _ _ h3)
      · cases h
    | «mut» m x ce =>
      dsimp only at h
      split at h
      · rename_i y q a ap e cp pos
        simp only [Bool.and_eq_true, Bool.or_eq_true, decide_eq_true_eq] at h
        obtain ⟨⟨⟨⟨⟨⟨⟨⟨h1, h2⟩, h3⟩, rfl⟩, h5⟩, h6⟩, h7⟩, h8⟩, h9⟩ := h
        have hup : m = .update → x ∉ ce.tv := fun e => by
          rcases h9 with h9 | h9
          · exact absurd e h9
          · simpa using h9
        cases m with
        | append => exact cs_mut hu6 PySem.F.plainAttrs_list PySem.F.slot_list_append PySem.F.type_list_append (F.var h1 h2 h3) (ie _ _ h5) h6 h7 hup
        | extend => exact cs_mut hu6 PySem.F.plainAttrs_list PySem.F.slot_list_extend PySem.F.type_list_extend (F.var h1 h2 h3) (ie _ _ h5) h6 h7 hup
        | update => exact cs_mut hu6 PySem.F.plainAttrs_dict PySem.F.slot_dict_update PySem.F.type_dict_update (F.var h1 h2 h3) (ie _ _ h5) h6 h7 hup
        | pop => exact cs_mut hu6 PySem.F.plainAttrs_dict PySem.F.slot_dict_pop PySem.F.type_dict_pop (F.var h1 h2 h3) (ie _ _ h5) h6 h7 hup
        | remove => cases h8
      · cases h
    | popTo i x =>
      dsimp only at h
      split at h
      · simp only [Bool.and_eq_true, decide_eq_true_eq] at h
        obtain ⟨⟨⟨⟨⟨⟨h1, h2⟩, h3⟩, h4⟩, h5⟩, rfl⟩, h7⟩ := h
        exact cs_popTo hnd (by rw [F.N]; exact of_decide_eq_true h1) (by rw [F.sc]; exact loc_ok h2) (.inl (F.fnb _ rfl)) (F.var h3 h4 h5) h7
      · cases h
    | ret ce =>
      dsimp only at h
      split at h
      · exact cs_ret (ie _ _ h)
      · cases h
    | retn =>
      dsimp only at h
      split at h
      · exact cs_retn
      · cases h
    | ifs cc ca cb =>
      dsimp only at h
      split at h
      · simp only [Bool.and_eq_true] at h
        exact cs_ifs (it _ _ h.1.1) (pss_any ih h.1.2) (pss_any ih h.2)
      · cases h
    | whil cc cb =>
      dsimp only at h
      split at h
      · simp only [Bool.and_eq_true] at h
        exact cs_while hpo (it _ _ h.1) (pss_any ih h.2)
      · cases h
    | «for» t i cb =>
      dsimp only at h
      split at h
      · rename_i tg iter b pos
        simp only [Bool.and_eq_true] at h
        obtain ⟨⟨⟨h1, h2⟩, h3⟩, h4⟩ := h
        refine cs_for hpo F.calm (ci_any F ie tg h2) (fun e z => ?_) (F.pg h1) (pss_any ih h4) (set_it h3 _)
        subst z
        unfold ckI at h2
        split at h2 <;> first | (cases h2; done) | (rename_i a; cases a)
      · cases h
    | cont =>
      dsimp only at h
      split at h
      · exact cs_cont
      · cases h
    | brk =>
      dsimp only at h
      split at h
      · exact cs_brk
      · cases h
    | pass =>
      dsimp only at h
      split at h
      · exact cs_pass
      · cases h
    | doc =>
      dsimp only at h
      split at h
      · exact cs_doc
      · cases h
end
end EvB
end

section
set_option autoImplicit false
set_option Elab.async false
set_option linter.all false
set_option maxRecDepth 100000
set_option maxHeartbeats 4000000
/-! defs that call defs -/
namespace EvB
open PySem PySem.Spec PyProof.Rows L2
open Ev (PV Store Res EnvV CallF CE CS IT Tgt Gen FC)
mutual
/-- what names no shared object holds it whatever they are -/
theorem rz_no {w : World} {K : PySem.W.Frag} {al al' : List Addr} {H : Hp} {P : Addr → Prop} : ∀ (d : PV) {v : V}, d.cb 0 = true → Rz w K al H P v d → Rz w K al' H P v d
  | .non, _, _, h => by cases h; exact .non
  | .bl b, _, _, h => by cases h; exact .bl b
  | .int i, _, _, h => by cases h; exact .int i
  | .str s, _, _, h => by cases h with | str _ hs => exact .str s hs
  | .tup ds, _, c, h => by
    cases h with
    | tup h1 h2 => exact .tup h1 (rzl_no ds (by simpa [Ev.PV.cb] using c) h2)
  | .lst ds, _, c, h => by
    cases h with
    | lst h1 hp h2 => exact .lst h1 hp (rzl_no ds (by simpa [Ev.PV.cb] using c) h2)
  | .dct ds, _, c, h => by
    cases h with
    | dct h1 hp h2 => exact .dct h1 hp (rzd_no ds (by simpa [Ev.PV.cb] using c) h2)
  | .cel n, _, c, h => by simp [Ev.PV.cb] at c
  | .scr ns, _, _, h => by cases h with
    | scr h1 => exact .scr h1
theorem rzl_no {w : World} {K : PySem.W.Frag} {al al' : List Addr} {H : Hp} {P : Addr → Prop} : ∀ (ds : List PV) {vs : List V}, Ev.PV.cbL 0 ds = true → RzL w K al H P vs ds → RzL w K al' H P vs ds
  | [], _, _, h => by cases h; exact .nil
  | d :: ds, _, c, h => by
    simp only [Ev.PV.cbL, Bool.and_eq_true] at c
    cases h with
    | cons h1 h2 => exact .cons (rz_no d c.1 h1) (rzl_no ds c.2 h2)
theorem rzd_no {w : World} {K : PySem.W.Frag} {al al' : List Addr} {H : Hp} {P : Addr → Prop} : ∀ (ds : List (PV × PV)) {es : List Ent}, Ev.PV.cbD 0 ds = true → RzD w K al H P es ds → RzD w K al' H P es ds
  | [], _, _, h => by cases h; exact .nil
  | (k, v) :: ds, _, c, h => by
    simp only [Ev.PV.cbD, Bool.and_eq_true] at c
    cases h with
    | cons h1 h2 h3 h4 h5 h6 => exact .cons h1 h2 h3 (rz_no k c.1.1 h4) (rz_no v c.1.2 h5) (rzd_no ds c.2 h6)
end
structure DD where
  gname : Str
  name : Str
  qual : Str
  params : Arguments
  body : List Stmt
  scope : Scope
  N : List Str
  ps : List Str
  fc : FC
def ddOk (L : Lg) (n : Nat) (D : DD) : Bool := C8.scC D.N D.ps D.scope && all2 (ckS ⟨D.N, L.fns, L.gls⟩ n D.scope) D.body D.fc.body && decide (D.fc.np = D.ps.length) && decide (D.fc.ns = D.N.length) && decide (D.ps.length ≤ D.N.length)
/-- how a def's arguments come to its parameters -/
def BOk (D : DD) : Prop := ∀ (kV doc pm : Value) (an : Option Addr) (cdv ct : Value) (us : List Value), us.length = D.ps.length → bindArgs (PySem.W.fnOf D.name D.qual D.params D.body D.scope .none kV doc pm an cdv ct) ⟨us, []⟩ = pure (D.ps.zip us)
inductive BAll : List DD → Prop where
  | nil : BAll []
  | cons {D : DD} {Ds : List DD} : BOk D → BAll Ds → BAll (D :: Ds)
theorem BAll.get : ∀ {Ds : List DD} {i : Nat} {D : DD}, BAll Ds → Ds[i]? = some D → BOk D
  | _, 0, _, .cons h _, e => by cases e; exact h
  | _, i + 1, _, .cons _ t, e => BAll.get (i := i) t e
section
variable {P : Program} {w : World} {K : PySem.W.Frag} {mg : Str → Option Value} {base : Heap}
theorem start_get {N : List Str} {vs : List V} {i : Nat} {v : V} (h : vs[i]? = some v) : (L2.start N vs)[i]? = some (some v) := by
  unfold L2.start
  have lt := (List.getElem?_eq_some_iff.mp h).1
  rw [List.getElem?_append_left (by rw [List.length_map]; exact lt), List.getElem?_map, h]
  rfl
theorem startE_get {fc : FC} {args : List PV} {i : Nat} {d : PV} (h : (Ev.vals (Ev.startE fc args))[i]? = some (some d)) : args[i]? = some d := by
  rw [vals_get] at h
  unfold Ev.startE at h
  by_cases lt : i < args.length
  · rw [List.getElem?_append_left (by rw [List.length_map]; exact lt), List.getElem?_map] at h
    cases k : args[i]? with
    | none => rw [k] at h; cases h
    | some a =>
      rw [k] at h
      simp only [Option.map_some, Ev.Sl.val, Option.some.injEq] at h
      rw [h]
  · rw [List.getElem?_append_right (by rw [List.length_map]; omega), List.getElem?_replicate] at h
    split at h <;> simp [Ev.Sl.val] at h
theorem startE_no {fc : FC} {args : List PV} {i : Nat} {d : PV} (h : (Ev.startE fc args)[i]? = some (.ow d)) : False := by
  unfold Ev.startE at h
  by_cases lt : i < args.length
  · rw [List.getElem?_append_left (by rw [List.length_map]; exact lt), List.getElem?_map] at h
    cases k : args[i]? with
    | none => rw [k] at h; cases h
    | some a => rw [k] at h; cases h
  · rw [List.getElem?_append_right (by rw [List.length_map]; omega), List.getElem?_replicate] at h
    split at h <;> cases h
theorem passOwn (X : Cx) : PassesOwn (model X.nox.prog X.nox.w) X.nox.A X.nox.env X.nox.xe := PassesOwn.never
/-- a def's body, from a call's promise -/
theorem body_ok {cf : CallF} {gl : Nat → Option PV} {W : Nat} {D : DD} {L : Lg} {n i : Nat} {f : Addr} {fd : FuncData} {k : Nat} (F : FunD K D.name D.qual D.params D.body D.scope [] [] f fd) (hd : ddOk L n D = true)
    (fx : ∀ X : Cx, X.prog = P → X.w = w → X.K = K → X.mg = mg → X.base = base → Room k X.A → (∀ (f : Nat) (x : Str), L.fns[f]? = some x → ∃ (k np : Nat) (fa : Addr) (fd : FuncData) (ps : List Str), FnOk X.prog X.w X.K X.mg X.base noX k fa fd ps (spEv X.w X.K cf f np) ∧ Room k X.A ∧ X.mg x = some (.ref fa) ∧ PySem.W.keepIn X.K (.ref fa) = true ∧ Binds X.K fd ps [] ∧ ∀ args S r, cf f args S = .ok r → args.length = np))
    (hbi : ∀ x ∈ biL, mg x = none) (hgl : ∀ (g : Nat) (x : Str), L.gls[g]? = some x → ∃ s t, gl g = some (.str s) ∧ mg x = some (.str (toS s) t) ∧ s.length ≤ sizeLine)
    (cf' : CallF) (hcf : ∀ args S r, cf' i args S = .ok r → args.length = D.fc.np ∧ ∃ out, Ev.evB cf gl W (Ev.startE D.fc args) D.fc.body S = .ok out ∧ Ev.finishC S.length out = .ok r) :
    FnOk P w K mg base noX (k + 1) f fd D.ps (spEv w K cf' i D.ps.length) := by
  unfold ddOk at hd
  simp only [Bool.and_eq_true, decide_eq_true_eq] at hd
  obtain ⟨⟨⟨⟨h1, h2⟩, h3⟩, h4⟩, h6⟩ := hd
  have sc := C8.fnScope_by h1
  refine F.ok sc (fun vs H Q E ⟨Z, args, S, r, S', e, hl, _, _, rz, _⟩ => by rw [rz.length, hl]) (fun cdv A outer s H vs Q E hr ⟨Z, args, S, r, S', e, hl, hO, st, rz, q⟩ => ?_)
  refine ⟨_, PSs.nox (pss_any (cf := cf) (gl := gl) (W := W) (cks_ok (passOwn _) (L := ⟨D.N, L.fns, L.gls⟩) (sc := D.scope) ⟨rfl, sc.nd, rfl, fun _ _ => rfl, rfl, by have := hr.un; show A.units + 3 + 128 < cLine; have h9 : (A.deeper (envOfC D.qual D.scope s.heap.objs.size f cdv)).units = A.units + 3 := rfl; omega, hbi, fx _ rfl rfl rfl rfl rfl hr, hgl⟩ n) h2), ?_⟩
  obtain ⟨ha, ⟨fl, env', S''⟩, e1, e2⟩ := hcf args S (r, S') e
  have lvs : vs.length = args.length := rz.length
  have lN : args.length ≤ D.N.length := by rw [ha, h3]; exact h6
  have ss : SS (cxOf noX P w K mg base D.N D.qual D.scope f cdv A outer s H E).nox Z (L2.start D.N vs) H (Ev.startE D.fc args) S := by
    refine ⟨?_, st, ⟨?_, fun j d hj => ?_⟩, fun j v hj => (startE_no hj).elim, fun j a hj => (by rw [hO j] at hj; cases hj), fun j m a hj => (by rw [hO j] at hj; cases hj)⟩
    · unfold Ev.startE L2.start
      rw [List.length_append, List.length_append, List.length_map, List.length_map, List.length_replicate, List.length_replicate, h4, lvs, ← ha]
    · rw [vals_len]
      unfold Ev.startE L2.start
      rw [List.length_append, List.length_append, List.length_map, List.length_map, List.length_replicate, List.length_replicate, h4, lvs, ← ha]
      exact Nat.le_refl _
    · have hj := startE_get hj
      obtain ⟨v, k1, k2⟩ := rzl_at rz hj
      exact ⟨v, start_get k1, rz_sub k2 fun _ m => (by cases m), .of k2⟩
  have fin : ∀ (Z' : Sit) (σ' : L2.St) (H' : Hp) (v : V), SS (cxOf noX P w K mg base D.N D.qual D.scope f cdv A outer s H E).nox Z' σ' H' env' S'' → Since Z H Z' H' → S' = S''.take S.length → r.cb S.length = true → Rz w K Z'.al H' Z'.all v r → Q v H' := by
    intro Z' σ' H' v s' sn eS cb rv
    refine q v H' (sn.ext.mono fun a m => m.elim id fun ⟨j, z⟩ => by rw [hO j] at z; cases z) ?_ ?_
    · refine ⟨?_, st.nod, fun a ea => by rw [← sn.p]; exact s'.st.fr a ea, fun m a ea => ?_, fun a c => ⟨sn.live a (st.csub a c).1, (st.csub a c).2⟩, fun j a o => by rw [hO j] at o; cases o⟩
      · rw [eS, List.length_take, ← s'.st.len]
        rcases sn.al with ⟨z, _⟩ | ⟨z, _⟩
        · rw [z, st.len, Nat.min_self]
        · have : S.length = 0 := by rw [← st.len, z]; rfl
          rw [z, this]
          simp
      · rcases sn.al with ⟨z1, z2⟩ | ⟨z, _⟩
        · obtain ⟨d, k1, k2, k3⟩ := s'.st.cel m a (by rw [z1]; exact ea)
          have lm : m < S.length := by rw [← st.len]; exact (List.getElem?_eq_some_iff.mp ea).1
          refine ⟨d, by rw [eS, List.getElem?_take_of_lt lm]; exact k1, k2, ?_⟩
          rw [z1, z2] at k3
          exact k3
        · rw [z] at ea
          cases ea
    · have rv2 : Rz w K Z.al H' Z'.all v r := by
        rcases sn.al with ⟨z1, _⟩ | ⟨z, _⟩
        · rw [z1] at rv
          exact rv
        · have : S.length = 0 := by rw [← st.len, z]; rfl
          rw [this] at cb
          exact rz_no r cb rv
      refine rv2.mono fun a o ea qa => ⟨by rw [← sn.p]; exact qa.1, fun m => ?_, fun j z => by rw [hO j] at z; cases z⟩
      rcases sn.al with ⟨z1, _⟩ | ⟨z, _⟩
      · exact qa.2 (by rw [z1]; exact m)
      · rw [z] at m
        cases m
  refine ⟨Z, Ev.startE D.fc args, S, fl, env', S'', e1, ss, ?_⟩
  cases fl with
  | nx =>
    obtain ⟨f1, e2⟩ := need_bind e2
    cases e2
    exact fun Z' σ' H' s' sn => fin Z' σ' H' .non s' sn rfl rfl .non
  | ret v =>
    obtain ⟨f1, e2⟩ := need_bind e2
    cases e2
    exact fun Z' σ' H' x s' sn rx => fin Z' σ' H' x s' sn rfl (Bool.and_eq_true_iff.mp f1).1 rx
  | cont => cases e2
  | brk => cases e2
theorem callAt_len {tab : List FC} {gl : Nat → Option PV} {W k i : Nat} {args : List PV} {S : Store} {r : PV × Store} {fc : FC} (hi : tab[i]? = some fc) (e : Ev.callAt tab gl W k i args S = .ok r) : args.length = fc.np := by
  cases k with
  | zero => cases e
  | succ k =>
    simp only [Ev.callAt, hi] at e
    obtain ⟨f1, e⟩ := need_bind e
    exact of_decide_eq_true f1
theorem calls_ok {Ds : List DD} {gls : List (Str × List Nat)} {n W : Nat} {fa : Nat → Addr} {fd : Nat → FuncData} (hd : ∀ (i : Nat) (D : DD), Ds[i]? = some D → ddOk ⟨[], Ds.map (·.gname), gls.map (·.1)⟩ n D = true) (hB : BAll Ds) (hf : ∀ (i : Nat) (D : DD), Ds[i]? = some D → FunD K D.name D.qual D.params D.body D.scope [] [] (fa i) (fd i))
    (hmg : ∀ (i : Nat) (D : DD), Ds[i]? = some D → mg D.gname = some (.ref (fa i))) (hbi : ∀ x ∈ biL, mg x = none) (hgl : ∀ (g : Nat) (p : Str × List Nat), gls[g]? = some p → (∃ t, mg p.1 = some (.str (toS p.2) t)) ∧ p.2.length ≤ sizeLine) :
    ∀ (k i : Nat) (D : DD), Ds[i]? = some D → FnOk P w K mg base noX k (fa i) (fd i) D.ps (spEv w K (Ev.callAt (Ds.map (·.fc)) (fun g => (gls[g]?).map fun p => .str p.2) W k) i D.ps.length)
  | 0, i, D, hD => ⟨fun vs H Q E ⟨Z, args, S, r, S', e, _⟩ => (by cases e), fun A outer s H args us vs Q E hr e0 hb hv ⟨Z, args', S, r, S', e, _⟩ => (by cases e)⟩
  | k + 1, i, D, hD => by
    have ih := calls_ok hd hB hf hmg hbi hgl (n := n) (W := W) k
    refine body_ok (L := ⟨[], Ds.map (·.gname), gls.map (·.1)⟩) (n := n) (cf := Ev.callAt (Ds.map (·.fc)) (fun g => (gls[g]?).map fun p => .str p.2) W k) (gl := fun g => (gls[g]?).map fun p => .str p.2) (W := W) (hf i D hD) (hd i D hD) (fun X e1 e2 e3 e4 e5 hr f x hx => ?_) hbi (fun g x hg => ?_) _ (fun args S r e => ?_)
    · subst e1 e2 e3 e4 e5
      have hx : (Ds.map (·.gname))[f]? = some x := hx
      rw [List.getElem?_map] at hx
      obtain ⟨D', h1, rfl⟩ := Option.map_eq_some_iff.mp hx
      refine ⟨k, D'.ps.length, fa f, fd f, D'.ps, ih f D' h1, hr, hmg f D' h1, (hf f D' h1).kp, ?_, fun args S r e => ?_⟩
      · exact (hf f D' h1).bindsN (hB.get h1)
      · have := hd f D' h1
        unfold ddOk at this
        simp only [Bool.and_eq_true, decide_eq_true_eq] at this
        rw [callAt_len (fc := D'.fc) (by rw [List.getElem?_map, h1]; rfl) e, this.1.1.2]
    · have hg : (gls.map (·.1))[g]? = some x := hg
      rw [List.getElem?_map] at hg
      obtain ⟨p, h1, rfl⟩ := Option.map_eq_some_iff.mp hg
      obtain ⟨⟨t, h2⟩, h3⟩ := hgl g p h1
      exact ⟨p.2, t, by simp only [h1, Option.map_some], h2, h3⟩
    · have hl := callAt_len (fc := D.fc) (by rw [List.getElem?_map, hD]; rfl) e
      refine ⟨hl, ?_⟩
      simp only [Ev.callAt, List.getElem?_map, hD, Option.map_some] at e
      obtain ⟨f1, e⟩ := need_bind e
      obtain ⟨out, e3, e4⟩ := Res.bind_eq_ok e
      exact ⟨out, e3, e4⟩
end
end EvB
end

section
set_option autoImplicit false
set_option Elab.async false
set_option linter.all false
set_option maxRecDepth 100000
set_option maxHeartbeats 4000000
/-! the end: a law's code gives True at every script -/
namespace EvB
open PySem PySem.Spec PyProof.Rows L2
open Ev (PV Store Res EnvV CallF CE CS IT Tgt Gen FC)
def DD.he (D : DD) : He.DefD := ⟨(D.gname, none), D.name, D.qual, D.params, D.body, D.scope, [], []⟩
def faL (Ds : List DD) (gls : List (Str × List Nat)) : List He.Fa := (Ds.map fun D => He.Fa.glo D.gname) ++ (biL.map He.Fa.free ++ gls.map fun p => He.Fa.str p.1 (toS p.2))
def fnL (Ds : List DD) : List He.DefD := Ds.map DD.he
section
variable {P : Program} {w : World} {K : PySem.W.Frag} {mg : Str → Option Value} {h : Heap}
theorem fact_mem {fa : List He.Fa} {fn : List He.DefD} (c : He.SaysD fa fn K) {f : He.Fa} (m : f ∈ fa) : f.ok K = true := by
  obtain ⟨i, hi⟩ := List.getElem?_of_mem m
  exact c.fact i hi
theorem law_end {Ds : List DD} {gls : List (Str × List Nat)} {n W k iL : Nat} {D : DD} {f : Addr} (X : K.In h) (G : h.Ns mainGlobals mg) (c : He.SaysD (faL Ds gls) (fnL Ds) K) (hd : Ds.all (ddOk ⟨[], Ds.map (·.gname), gls.map (·.1)⟩ n) = true) (hB : BAll Ds)
    (hL : Ds[iL]? = some D) (hps : D.ps = [("script" : Str)]) (hls : gls.all (fun p => decide (p.2.length ≤ 1000000)) = true) (hfa : mg D.gname = some (.ref f))
    (hev : ∀ ns : List Int, ns.length ≤ 63 → ∃ S, Ev.callAt (Ds.map (·.fc)) (fun g => (gls[g]?).map fun p => .str p.2) W k iL [.scr ns] [] = .ok (.bl true, S)) :
    ∃ (fd : FuncData) (sp : Sp), (∀ (s : Shared) (v : Value), BindsTo s fd ⟨[v], []⟩ [(("script" : Str), v)]) ∧ (∀ (H : Hp) (a : Addr) (ns : List Int), ns.length ≤ 63 → Only H → SqL K H a (ns.map V.int) → sp [.ref a] H (fun v _ => v = .bl true) fun _ _ _ => False) ∧
      ∀ base : Heap, K.In base → base.Ns mainGlobals mg → FnOk P w K mg base noX k f fd [("script" : Str)] sp := by
  have hdef : ∀ i : Nat, ∃ fd : FuncData, ∀ D : DD, Ds[i]? = some D → FunD K D.name D.qual D.params D.body D.scope [] [] (He.ga K D.gname) fd := fun i => by
    cases e : Ds[i]? with
    | none => exact ⟨default, fun D z => by cases z⟩
    | some D =>
      obtain ⟨fd, F⟩ := c.def_ i (d := D.he) (by unfold fnL; rw [List.getElem?_map, e]; rfl)
      exact ⟨fd, fun D' z => by cases z; exact F⟩
  obtain ⟨fds, hfd⟩ := Classical.axiomOfChoice hdef
  have hglo : ∀ (i : Nat) (D : DD), Ds[i]? = some D → mg D.gname = some (.ref (He.ga K D.gname)) := fun i D e => He.glo_ok X G (fact_mem c (List.mem_append_left _ (List.mem_map.mpr ⟨D, List.mem_of_getElem? e, rfl⟩)))
  have hfree : ∀ x ∈ biL, mg x = none := fun x m => He.free_ok X G (fact_mem c (List.mem_append_right _ (List.mem_append_left _ (List.mem_map_of_mem m))))
  have hstr : ∀ (g : Nat) (p : Str × List Nat), gls[g]? = some p → (∃ t, mg p.1 = some (.str (toS p.2) t)) ∧ p.2.length ≤ sizeLine := fun g p e =>
    ⟨He.str_ok X G (fact_mem c (List.mem_append_right _ (List.mem_append_right _ (List.mem_map.mpr ⟨p, List.mem_of_getElem? e, rfl⟩)))), Nat.le_trans (of_decide_eq_true (List.all_eq_true.mp hls p (List.mem_of_getElem? e))) (by decide)⟩
  have hdd : ∀ (i : Nat) (D : DD), Ds[i]? = some D → ddOk ⟨[], Ds.map (·.gname), gls.map (·.1)⟩ n D = true := fun i D e => List.all_eq_true.mp hd D (List.mem_of_getElem? e)
  let fa : Nat → Addr := fun i => match Ds[i]? with
    | some D => He.ga K D.gname
    | none => 0
  have hfaE : ∀ (i : Nat) (D : DD), Ds[i]? = some D → fa i = He.ga K D.gname := fun i D e => by
    show (match Ds[i]? with
      | some D => He.ga K D.gname
      | none => 0) = _
    rw [e]
  have key : ∀ base : Heap, FnOk P w K mg base noX k (fa iL) (fds iL) D.ps (spEv w K (Ev.callAt (Ds.map (·.fc)) (fun g => (gls[g]?).map fun p => .str p.2) W k) iL D.ps.length) := fun base =>
    calls_ok (P := P) (w := w) (base := base) (fd := fds) (fa := fa) hdd hB (fun i D e => by rw [hfaE i D e]; exact hfd i D e) (fun i D e => by rw [hfaE i D e]; exact hglo i D e) hfree hstr k iL D hL
  have ef : fa iL = f := by
    rw [hfaE iL D hL]
    have := hglo iL D hL
    rw [hfa] at this
    cases this
    rfl
  rw [ef, hps] at key
  refine ⟨fds iL, _, fun s v => ?_, fun H a ns hl hO hS => ?_, fun base _ _ => key base⟩
  · have := FunD.bindsA (ps := D.ps) (hfd iL D hL) (hB.get hL) s [v] (by rw [hps]; rfl)
    rw [hps] at this
    exact this
  · obtain ⟨S, e⟩ := hev ns hl
    refine ⟨⟨[], fun _ => True, fun _ => False, fun _ => none⟩, [.scr ns], [], .bl true, S, e, rfl, fun _ => rfl, ⟨rfl, List.nodup_nil, fun _ _ => trivial, fun n a z => (by cases z), fun a z => z.elim, fun i a z => (by cases z)⟩, .cons (.scr ?_) .nil, fun v H' _ _ rv => by cases rv; rfl⟩
    rcases hS with (hS | ⟨o, hS⟩) | hS
    · rcases hO a with z | ⟨o, xs, z⟩
      · rw [z] at hS; cases hS
      · rw [z] at hS; cases hS
    · exact .inl ⟨o, hS⟩
    · exact .inr hS
end
end EvB
end

section
/-! tools for the plain maths: the evaluator's equations, told so that simp runs the code from the front -/
set_option autoImplicit false
namespace Ev
open Res PV
/-- a bind is looked at from the front alone -/
theorem bind_front {α β : Type} {x y : Res α} {f : α → Res β} (h : x = y) : (x >>= f) = (y >>= f) := by rw [h]
section
variable (cf : CallF) (gl : Nat → Option PV) (W : Nat) (env : EnvV) (en : Env) (S : Store)
@[simp] theorem x_non : evE cf gl env .non S = .ok (.non, S) := by simp only [evE]
@[simp] theorem x_bl (b : Bool) : evE cf gl env (.bl b) S = .ok (.bl b, S) := by simp only [evE]
@[simp] theorem x_int (i : Int) : evE cf gl env (.int i) S = .ok (.int i, S) := by simp only [evE]
@[simp] theorem x_str (s : List Nat) : evE cf gl env (.str s) S = .ok (.str s, S) := by simp only [evE]
@[simp] theorem x_gl (g : Nat) : evE cf gl env (.gl g) S = (do let v ← ofOpt (gl g); .ok (v, S)) := by simp only [evE]
@[simp] theorem x_slot (i : Nat) : evE cf gl env (.slot i) S = (do let v ← ofOpt ((env[i]?).join); .ok (v, S)) := by simp only [evE]
@[simp] theorem x_tup (es : List CE) : evE cf gl env (.tup es) S = (do let p ← evL cf gl env es S; need (fitsL p.1); .ok (.tup p.1, p.2)) := by simp only [evE]
@[simp] theorem x_lst (es : List CE) : evE cf gl env (.lst es) S = (do let p ← evL cf gl env es S; need (fitsL p.1); .ok (.lst p.1, p.2)) := by simp only [evE]
@[simp] theorem x_dic (es : List CE) : evE cf gl env (.dic es) S = (do let p ← evP cf gl env es S; need (decide (p.1.length ≤ 15)); .ok (.dct (dUpd [] p.1), p.2)) := by simp only [evE]
@[simp] theorem x_bin (op : Bop) (a b : CE) : evE cf gl env (.bin op a b) S = (do let p ← evE cf gl env a S; let q ← evE cf gl env b p.2; let r ← binop op p.1 q.1; .ok (r, q.2)) := by simp only [evE]
@[simp] theorem x_neg (a : CE) : evE cf gl env (.neg a) S = (do let p ← evE cf gl env a S; match p.1 with | .int i => .ok (.int (-i), p.2) | _ => .bad) := by first | (simp only [evE]; rfl) | simp only [evE]
@[simp] theorem x_not (a : CE) : evE cf gl env (.not a) S = (do let p ← evE cf gl env a S; let b ← truthy p.1; .ok (.bl !b, p.2)) := by simp only [evE]
@[simp] theorem x_and1 (e : CE) : evE cf gl env (.and [e]) S = evE cf gl env e S := by simp only [evE, evAnd]
@[simp] theorem x_and2 (e f : CE) (es : List CE) : evE cf gl env (.and (e :: f :: es)) S = (do let p ← evE cf gl env e S; let t ← truthy p.1; if t then evE cf gl env (.and (f :: es)) p.2 else .ok p) := by simp only [evE, evAnd]
@[simp] theorem x_or1 (e : CE) : evE cf gl env (.or [e]) S = evE cf gl env e S := by simp only [evE, evOr]
@[simp] theorem x_or2 (e f : CE) (es : List CE) : evE cf gl env (.or (e :: f :: es)) S = (do let p ← evE cf gl env e S; let t ← truthy p.1; if t then .ok p else evE cf gl env (.or (f :: es)) p.2) := by simp only [evE, evOr]
@[simp] theorem x_ite (c a b : CE) : evE cf gl env (.ite c a b) S = (do let p ← evE cf gl env c S; let t ← truthy p.1; if t then evE cf gl env a p.2 else evE cf gl env b p.2) := by simp only [evE]
@[simp] theorem x_cmp (op : Cop) (a b : CE) : evE cf gl env (.cmp op a b) S = (do let p ← evE cf gl env a S; let q ← evE cf gl env b p.2; let r ← cmpop op p.1 q.1; .ok (.bl r, q.2)) := by simp only [evE]
@[simp] theorem x_idx (a i : CE) : evE cf gl env (.idx a i) S = (do let p ← evE cf gl env a S; let q ← evE cf gl env i p.2; match p.1 with | .cel n => do let o ← ofOpt q.2[n]?; let r ← subscr o q.1; .ok (r, q.2) | _ => do let r ← subscr p.1 q.1; .ok (r, q.2)) := by first | (simp only [evE]; rfl) | simp only [evE]
@[simp] theorem x_rev (a : CE) : evE cf gl env (.rev a) S = (do let p ← evE cf gl env a S; let r ← revE p.1; .ok (r, p.2)) := by simp only [evE]
@[simp] theorem x_slc (a : CE) (lo hi : Option CE) : evE cf gl env (.slc a lo hi) S = (do let p ← evE cf gl env a S; let l ← evO cf gl env lo p.2; let h ← evO cf gl env hi l.2; let r ← slice p.1 l.1 h.1; .ok (r, h.2)) := by simp only [evE]
@[simp] theorem x_call (f : Nat) (es : List CE) : evE cf gl env (.call f es) S = (do let p ← evL cf gl env es S; cf f p.1 p.2) := by simp only [evE]
@[simp] theorem x_bi (b : Bi) (es : List CE) : evE cf gl env (.bi b es) S = (do let p ← evL cf gl env es S; let r ← builtin b p.1; .ok (r, p.2)) := by simp only [evE]
@[simp] theorem x_bit (b : Bi) (it : IT) : evE cf gl env (.bit b it) S = (do let p ← evI cf gl env it S; let r ← builtin b [.lst p.1]; .ok (r, p.2)) := by simp only [evE]
@[simp] theorem x_isi (t : Ty) (a : CE) : evE cf gl env (.isi t a) S = (do let p ← evE cf gl env a S; need (!isCel p.1 && !isScr p.1); .ok (.bl (isTy t p.1), p.2)) := by simp only [evE]
@[simp] theorem x_sset (a : CE) : evE cf gl env (.sset a) S = (do let p ← evE cf gl env a S; let r ← ssetE p.1; .ok (r, p.2)) := by simp only [evE]
@[simp] theorem x_lset (a : CE) : evE cf gl env (.lset a) S = (do let p ← evE cf gl env a S; let r ← lsetE p.1; .ok (r, p.2)) := by simp only [evE]
@[simp] theorem x_meth (m : Mth) (o : CE) (es : List CE) : evE cf gl env (.meth m o es) S = (do let p ← evE cf gl env o S; let q ← evL cf gl env es p.2; let r ← method m p.1 q.1; .ok (r, q.2)) := by simp only [evE]
@[simp] theorem x_chain (o1 o2 : Cop) (a b c : CE) : evE cf gl env (.chain o1 o2 a b c) S = (do let p ← evE cf gl env a S; let q ← evE cf gl env b p.2; let r ← cmpop o1 p.1 q.1; if r then (do let z ← evE cf gl env c q.2; let r2 ← cmpop o2 q.1 z.1; .ok (.bl r2, z.2)) else .ok (.bl false, q.2)) := by simp only [evE]
@[simp] theorem xl_nil : evL cf gl env [] S = .ok ([], S) := by simp only [evL]
@[simp] theorem xl_cons (e : CE) (es : List CE) : evL cf gl env (e :: es) S = (do let p ← evE cf gl env e S; let q ← evL cf gl env es p.2; .ok (p.1 :: q.1, q.2)) := by simp only [evL]
@[simp] theorem xo_none : evO cf gl env none S = .ok (none, S) := by simp only [evO]
@[simp] theorem xo_some (e : CE) : evO cf gl env (some e) S = (do let p ← evE cf gl env e S; .ok (some p.1, p.2)) := by simp only [evO]
@[simp] theorem xp_nil : evP cf gl env [] S = .ok ([], S) := by simp only [evP]
@[simp] theorem xp_cons (k v : CE) (r : List CE) : evP cf gl env (k :: v :: r) S = (do let p ← evE cf gl env k S; let q ← evE cf gl env v p.2; need p.1.isMix; let t ← evP cf gl env r q.2; .ok ((p.1, q.1) :: t.1, t.2)) := by simp only [evP]
@[simp] theorem xi_val (e : CE) : evI cf gl env (.val e) S = (do let p ← evE cf gl env e S; let l ← walk p.1; .ok (l, p.2)) := by simp only [evI]
@[simp] theorem xi_rng (es : List CE) : evI cf gl env (.rng es) S = (do let p ← evL cf gl env es S; let l ← rangeE p.1; .ok (l, p.2)) := by simp only [evI]
@[simp] theorem xi_items (e : CE) : evI cf gl env (.items e) S = (do let p ← evE cf gl env e S; match p.1 with | .dct l => .ok (l.map fun kv => .tup [kv.1, kv.2], p.2) | _ => .bad) := by first | (simp only [evI]; rfl) | simp only [evI]
@[simp] theorem xt_nil : evT cf gl env [] S = .ok (true, S) := by simp only [evT]
@[simp] theorem xt_cons (e : CE) (es : List CE) : evT cf gl env (e :: es) S = (do let p ← evE cf gl env e S; let t ← truthy p.1; if t then evT cf gl env es p.2 else .ok (false, p.2)) := by simp only [evT]
/-- a comprehension of one for: each item's part -/
def part1 (t : Tgt) (ifs : List CE) (elt : CE) (x : PV) (S : Store) : Res (List PV × Store) := do
  let env1 ← bindT t x (wipeV env t.slots)
  let b ← evT cf gl env1 ifs S
  if b.1 then (do let v ← evE cf gl env1 elt b.2; .ok ([v.1], v.2)) else .ok ([], b.2)
@[simp] theorem x_comp1 (t : Tgt) (it : IT) (ifs : List CE) (elt : CE) : evE cf gl env (.comp [.mk t it ifs] elt) S = (do let p ← evI cf gl env it S; let q ← eachL (part1 cf gl env t ifs elt) p.1 p.2; need (fitsL q.1); .ok (.lst q.1, q.2)) := by
  simp only [evE, evC, evD, ownOf, List.flatMap_nil, List.append_nil]
  cases h : evI cf gl env it S with
  | ok p => simp only [ok_bind]; rfl
  | exc c v => rfl
  | bad => rfl
def part2 (t : Tgt) (ifs : List CE) (t1 : Tgt) (it1 : IT) (ifs1 : List CE) (elt : CE) (x : PV) (S : Store) : Res (List PV × Store) := do
  let env1 ← bindT t x (wipeV env (t.slots ++ t1.slots))
  let b ← evT cf gl env1 ifs S
  if b.1 then (do let p ← evI cf gl env1 it1 b.2; eachL (part1 cf gl env1 t1 ifs1 elt) p.1 p.2) else .ok ([], b.2)
@[simp] theorem x_comp2 (t : Tgt) (it : IT) (ifs : List CE) (t1 : Tgt) (it1 : IT) (ifs1 : List CE) (elt : CE) : evE cf gl env (.comp [.mk t it ifs, .mk t1 it1 ifs1] elt) S = (do let p ← evI cf gl env it S; let q ← eachL (part2 cf gl env t ifs t1 it1 ifs1 elt) p.1 p.2; need (fitsL q.1); .ok (.lst q.1, q.2)) := by
  simp only [evE, evC, evD, ownOf, Gen.slots, List.flatMap_cons, List.flatMap_nil, List.append_nil]
  cases h : evI cf gl env it S with
  | ok p => simp only [ok_bind]; rfl
  | exc c v => rfl
  | bad => rfl
/-! statements -/
/-- a for's body, not to be looked into before it runs -/
def bodyB (b : List CS) (e : Env) (s : Store) : Res Out := evB cf gl W e b s
@[simp] theorem bodyB_app (b : List CS) (e : Env) (s : Store) : bodyB cf gl W b e s = evB cf gl W e b s := id rfl
@[simp] theorem s_nil : evB cf gl W en [] S = .ok (.nx, en, S) := by simp only [evB]
@[simp] theorem s_cons (c : CS) (cs : List CS) : evB cf gl W en (c :: cs) S = (do let o ← evS cf gl W en c S; match o.1 with | .nx => evB cf gl W o.2.1 cs o.2.2 | _ => .ok o) := by
  first
    | (simp only [evB]; done)
    | (simp only [evB]
       cases h : evS cf gl W en c S with
       | ok o =>
         obtain ⟨f, e, s⟩ := o
         cases f <;> rfl
       | exc c v => rfl
       | bad => rfl)
@[simp] theorem s_set (i : Nat) (e : CE) : evS cf gl W en (.set i e) S = (do let p ← evE cf gl (vals en) e S; .ok (.nx, (dem p.1 en e.tv).set i (mkSl e p.1), p.2)) := by simp only [evS]
@[simp] theorem s_par (is : List Nat) (es : List CE) : evS cf gl W en (.par is es) S = (do let p ← evPar cf gl [] is es en S; .ok (.nx, p.1, p.2)) := by simp only [evS]
@[simp] theorem s_parI (is : List Nat) (es : List CE) : evS cf gl W en (.parI is es) S = (do let p ← evL cf gl (vals en) es S; let q ← setI is p.1 en; .ok (.nx, q, p.2)) := by simp only [evS]
@[simp] theorem s_unp (is : List Nat) (e : CE) : evS cf gl W en (.unp is e) S = (do let p ← evE cf gl (vals en) e S; let q ← bindE (.tp is) p.1 (dem p.1 en e.tv); .ok (.nx, q, p.2)) := by simp only [evS]
@[simp] theorem s_put (x : Nat) (k e : CE) : evS cf gl W en (.put x k e) S = (do let p ← evE cf gl (vals en) e S; let q ← evE cf gl (vals en) k p.2; let r ← modOwn (dem p.1 en e.tv) x (fun o => putE o q.1 p.1); .ok (.nx, r, q.2)) := by simp only [evS]
@[simp] theorem s_aug (i : Nat) (op : Bop) (e : CE) : evS cf gl W en (.aug i op e) S = (do let o ← ofOpt ((vals en)[i]?).join; let p ← evE cf gl (vals en) e S; let r ← augE op o p.1; .ok (.nx, en.set i (.fz (.int r)), p.2)) := by simp only [evS]
@[simp] theorem s_append (x : Nat) (e : CE) : evS cf gl W en (.mut .append x e) S = (do let p ← evE cf gl (vals en) e S; let r ← modOwn (dem p.1 en e.tv) x (fun o => mutE .append o p.1); .ok (.nx, r, p.2)) := by simp only [evS]
@[simp] theorem s_extend (x : Nat) (e : CE) : evS cf gl W en (.mut .extend x e) S = (do let p ← evE cf gl (vals en) e S; let r ← modOwn (if p.1.partsImm then en else demote en e.pv) x (fun o => mutE .extend o p.1); .ok (.nx, r, p.2)) := by simp only [evS]
@[simp] theorem s_update (x : Nat) (e : CE) : evS cf gl W en (.mut .update x e) S = (do let p ← evE cf gl (vals en) e S; let r ← modOwn (if p.1.partsImm then en else demote en e.pv) x (fun o => mutE .update o p.1); .ok (.nx, r, p.2)) := by simp only [evS]
@[simp] theorem s_pop (x : Nat) (e : CE) : evS cf gl W en (.mut .pop x e) S = (do let p ← evE cf gl (vals en) e S; let r ← modOwn (if p.1.partsImm then en else demote en e.pv) x (fun o => mutE .pop o p.1); .ok (.nx, r, p.2)) := by simp only [evS]
@[simp] theorem s_cell (i : Nat) (e : CE) : evS cf gl W en (.cell i e) S = (do need S.isEmpty; let p ← evE cf gl (vals en) e S; need (e.fresh && p.1.isMut && p.2.isEmpty); .ok (.nx, (if p.1.partsImm then en else demote en e.pv).set i (.fz (.cel 0)), [p.1])) := by simp only [evS]
@[simp] theorem s_ret (e : CE) : evS cf gl W en (.ret e) S = (do let p ← evE cf gl (vals en) e S; .ok (.ret p.1, en, p.2)) := by simp only [evS]
@[simp] theorem s_retn : evS cf gl W en .retn S = .ok (.ret .non, en, S) := by simp only [evS]
@[simp] theorem s_ifs (c : CE) (a b : List CS) : evS cf gl W en (.ifs c a b) S = (do let p ← evE cf gl (vals en) c S; let t ← truthy p.1; if t then evB cf gl W en a p.2 else evB cf gl W en b p.2) := by simp only [evS]
@[simp] theorem s_for (t : Tgt) (it : IT) (b : List CS) : evS cf gl W en (.for t it b) S = (do let p ← evF cf gl en it S; forL t (bodyB cf gl W b) p.1 p.2.1 p.2.2) := by first | (simp only [evS]; rfl) | simp only [evS]
@[simp] theorem s_cont : evS cf gl W en .cont S = .ok (.cont, en, S) := by simp only [evS]
@[simp] theorem s_brk : evS cf gl W en .brk S = .ok (.brk, en, S) := by simp only [evS]
@[simp] theorem s_pass : evS cf gl W en .pass S = .ok (.nx, en, S) := by simp only [evS]
@[simp] theorem s_doc : evS cf gl W en .doc S = .ok (.nx, en, S) := by simp only [evS]
@[simp] theorem sf_val (e : CE) : evF cf gl en (.val e) S = (do let p ← evE cf gl (vals en) e S; let l ← walk p.1; .ok (l, dem p.1 en e.tv, p.2)) := by simp only [evF]
@[simp] theorem sf_rng (es : List CE) : evF cf gl en (.rng es) S = (do let p ← evI cf gl (vals en) (.rng es) S; .ok (p.1, en, p.2)) := by simp only [evF]
@[simp] theorem p_nil (pend : List Nat) : evPar cf gl pend [] [] en S = .ok (en, S) := by simp only [evPar]
@[simp] theorem p_cons (pend : List Nat) (i : Nat) (is : List Nat) (e : CE) (es : List CE) : evPar cf gl pend (i :: is) (e :: es) en S = (do let p ← evE cf gl (wipeV (vals en) pend) e S; evPar cf gl (i :: pend) is es ((dem p.1 en e.tv).set i (mkSl e p.1)) p.2) := by simp only [evPar]
@[simp] theorem for_nil (t : Tgt) (body : Env → Store → Res Out) : forL t body [] en S = .ok (.nx, en, S) := by simp only [forL]
theorem for_cons (t : Tgt) (body : Env → Store → Res Out) (x : PV) (xs : List PV) : forL t body (x :: xs) en S = (do let e ← bindE t x en; let o ← body e S; match o.1 with | .ret v => .ok (.ret v, o.2.1, o.2.2) | .brk => .ok (.nx, o.2.1, o.2.2) | _ => forL t body xs o.2.1 o.2.2) := by first | (simp only [forL]; rfl) | simp only [forL]
end
theorem each_nil (f : PV → Store → Res (List PV × Store)) (S : Store) : eachL f [] S = .ok ([], S) := rfl
theorem each_cons (f : PV → Store → Res (List PV × Store)) (x : PV) (xs : List PV) (S : Store) : eachL f (x :: xs) S = (do let p ← f x S; let q ← eachL f xs p.2; .ok (p.1 ++ q.1, q.2)) := by simp only [eachL]
/-- each item alone, the store left as it is -/
theorem each_pure {f : PV → Store → Res (List PV × Store)} {g : PV → List PV} {S : Store} : ∀ {l : List PV}, (∀ x ∈ l, f x S = .ok (g x, S)) → eachL f l S = .ok (l.flatMap g, S)
  | [], _ => rfl
  | x :: l, h => by
    rw [each_cons, h x List.mem_cons_self, ok_bind]
    simp only []
    rw [each_pure fun y hy => h y (List.mem_cons_of_mem _ hy), ok_bind, List.flatMap_cons]
/-! ### slots -/
@[simp] theorem vals_nil : vals [] = [] := id rfl
@[simp] theorem vals_cons (s : Sl) (l : Env) : vals (s :: l) = s.val :: vals l := id rfl
@[simp] theorem val_un : Sl.un.val = none := id rfl
@[simp] theorem val_fz (v : PV) : (Sl.fz v).val = some v := id rfl
@[simp] theorem val_ow (v : PV) : (Sl.ow v).val = some v := id rfl
@[simp] theorem wipe_nil (env : EnvV) : wipeV env [] = env := id rfl
@[simp] theorem wipe_cons (env : EnvV) (i : Nat) (is : List Nat) : wipeV env (i :: is) = wipeV (env.set i none) is := id rfl
@[simp] theorem bindT_nm (i : Nat) (v : PV) (env : EnvV) : bindT (.nm i) v env = .ok (env.set i (some v)) := id rfl
@[simp] theorem bindT_tp (is : List Nat) (l : List PV) (env : EnvV) : bindT (.tp is) (.tup l) env = bindSeq is l env := id rfl
@[simp] theorem bindSeq_nil (env : EnvV) : bindSeq [] [] env = .ok env := id rfl
@[simp] theorem bindSeq_cons (i : Nat) (is : List Nat) (v : PV) (l : List PV) (env : EnvV) : bindSeq (i :: is) (v :: l) env = bindSeq is l (env.set i (some v)) := id rfl
@[simp] theorem bindE_nm (i : Nat) (v : PV) (env : Env) : bindE (.nm i) v env = .ok (env.set i (.fz v)) := id rfl
@[simp] theorem bindE_tp (is : List Nat) (l : List PV) (env : Env) : bindE (.tp is) (.tup l) env = bindSeqE is l env := id rfl
@[simp] theorem bindSeqE_nil (env : Env) : bindSeqE [] [] env = .ok env := id rfl
@[simp] theorem bindSeqE_cons (i : Nat) (is : List Nat) (v : PV) (l : List PV) (env : Env) : bindSeqE (i :: is) (v :: l) env = bindSeqE is l (env.set i (.fz v)) := id rfl
@[simp] theorem slots_nm (i : Nat) : (Tgt.nm i).slots = [i] := id rfl
@[simp] theorem slots_tp (is : List Nat) : (Tgt.tp is).slots = is := id rfl
theorem dem_imm {v : PV} (h : v.imm = true) (env : Env) (is : List Nat) : dem v env is = env := by rw [dem, if_pos h]
theorem dem_mut {v : PV} (h : v.imm = false) (env : Env) (is : List Nat) : dem v env is = demote env is := by rw [dem, if_neg (by rw [h]; exact Bool.false_ne_true)]
@[simp] theorem demF_nil (k : Nat) (is : List Nat) : demoteFrom k [] is = [] := id rfl
@[simp] theorem demF_cons (k : Nat) (s : Sl) (r : Env) (is : List Nat) : demoteFrom k (s :: r) is = (if is.contains k then s.freeze else s) :: demoteFrom (k + 1) r is := id rfl
@[simp] theorem freeze_un : Sl.un.freeze = .un := id rfl
@[simp] theorem freeze_fz (v : PV) : (Sl.fz v).freeze = .fz v := id rfl
@[simp] theorem freeze_ow (v : PV) : (Sl.ow v).freeze = .fz v := id rfl
theorem demote_nil (env : Env) : demote env [] = env := by
  unfold demote
  have : ∀ (env : Env) (k : Nat), demoteFrom k env [] = env := fun env => by
    induction env with
    | nil => intro k; rfl
    | cons s r ih => intro k; rw [demF_cons, ih]; rfl
  exact this env 0
end Ev
end

section
/-! tools for the plain maths, two: what each builtin does with values told by their forms; the draws -/
set_option autoImplicit false
set_option linter.unusedSimpArgs false
namespace Ev
open Res PV
@[simp] theorem mk_int (e : CE) (i : Int) : mkSl e (.int i) = .fz (.int i) := by simp [mkSl, PV.isMut]
@[simp] theorem mk_bl (e : CE) (i : Bool) : mkSl e (.bl i) = .fz (.bl i) := by simp [mkSl, PV.isMut]
@[simp] theorem mk_str (e : CE) (i : List Nat) : mkSl e (.str i) = .fz (.str i) := by simp [mkSl, PV.isMut]
@[simp] theorem mk_non (e : CE) : mkSl e .non = .fz .non := by simp [mkSl, PV.isMut]
@[simp] theorem mk_tup (e : CE) (l : List PV) : mkSl e (.tup l) = .fz (.tup l) := by simp [mkSl, PV.isMut]
@[simp] theorem mk_lst (e : CE) (l : List PV) : mkSl e (.lst l) = if e.fresh then .ow (.lst l) else .fz (.lst l) := by simp [mkSl, PV.isMut]
@[simp] theorem mk_dct (e : CE) (l : List (PV × PV)) : mkSl e (.dct l) = if e.fresh then .ow (.dct l) else .fz (.dct l) := by simp [mkSl, PV.isMut]
@[simp] theorem imm_int (i : Int) : (PV.int i).imm = true := id rfl
@[simp] theorem imm_str (i : List Nat) : (PV.str i).imm = true := id rfl
@[simp] theorem imm_bl (i : Bool) : (PV.bl i).imm = true := id rfl
@[simp] theorem imm_non : PV.non.imm = true := id rfl
@[simp] theorem imm_tup (l : List PV) : (PV.tup l).imm = PV.immL l := by rw [PV.imm]
@[simp] theorem imm_lst (l : List PV) : (PV.lst l).imm = false := by rw [PV.imm]
@[simp] theorem imm_dct (l : List (PV × PV)) : (PV.dct l).imm = false := by rw [PV.imm]
@[simp] theorem immL_nil : PV.immL [] = true := by rw [PV.immL]
@[simp] theorem immL_cons (x : PV) (l : List PV) : PV.immL (x :: l) = (x.imm && PV.immL l) := by rw [PV.immL]
@[simp] theorem dem_def (v : PV) (env : Env) (is : List Nat) : dem v env is = if v.imm then env else demote env is := id rfl
@[simp] theorem mod_def (env : Env) (x : Nat) (f : PV → Res PV) : modOwn env x f = match env[x]? with | some (.ow v) => do let r ← f v; .ok (env.set x (.ow r)) | _ => .bad := id rfl
theorem demote_def (env : Env) (is : List Nat) : demote env is = demoteFrom 0 env is := rfl
@[simp] theorem demote_cons (s : Sl) (env : Env) (is : List Nat) : demote (s :: env) is = (if is.contains 0 then s.freeze else s) :: demoteFrom 1 env is := id rfl
@[simp] theorem fits0 {α : Type} : fitsL ([] : List α) = true := id rfl
@[simp] theorem fits1 {α : Type} (a : α) : fitsL [a] = true := id rfl
@[simp] theorem fits2 {α : Type} (a b : α) : fitsL [a, b] = true := id rfl
@[simp] theorem fits3 {α : Type} (a b c : α) : fitsL [a, b, c] = true := id rfl
@[simp] theorem fits4 {α : Type} (a b c d : α) : fitsL [a, b, c, d] = true := id rfl
@[simp] theorem fits5 {α : Type} (a b c d e : α) : fitsL [a, b, c, d, e] = true := id rfl
@[simp] theorem fits6 {α : Type} (a b c d e f : α) : fitsL [a, b, c, d, e, f] = true := id rfl
@[simp] theorem tv_slot (i : Nat) : CE.tv (.slot i) = [i] := by rw [CE.tv]
@[simp] theorem pv_slot (i : Nat) : CE.pv (.slot i) = [] := by simp only [CE.pv]
@[simp] theorem tv_tup (es : List CE) : CE.tv (.tup es) = tvL es := by rw [CE.tv]
@[simp] theorem pv_tup (es : List CE) : CE.pv (.tup es) = tvL es := by rw [CE.pv]
@[simp] theorem tv_lst (es : List CE) : CE.tv (.lst es) = tvL es := by rw [CE.tv]
@[simp] theorem pv_lst (es : List CE) : CE.pv (.lst es) = tvL es := by rw [CE.pv]
@[simp] theorem tv_dic (es : List CE) : CE.tv (.dic es) = tvL es := by rw [CE.tv]
@[simp] theorem pv_dic (es : List CE) : CE.pv (.dic es) = tvL es := by rw [CE.pv]
@[simp] theorem tv_bin (op : Bop) (a b : CE) : CE.tv (.bin op a b) = a.pv ++ b.pv := by rw [CE.tv]
@[simp] theorem pv_bin (op : Bop) (a b : CE) : CE.pv (.bin op a b) = a.pv ++ b.pv := by rw [CE.pv]
@[simp] theorem tv_and (es : List CE) : CE.tv (.and es) = tvL es := by rw [CE.tv]
@[simp] theorem pv_and (es : List CE) : CE.pv (.and es) = pvL es := by rw [CE.pv]
@[simp] theorem tv_or (es : List CE) : CE.tv (.or es) = tvL es := by rw [CE.tv]
@[simp] theorem pv_or (es : List CE) : CE.pv (.or es) = pvL es := by rw [CE.pv]
@[simp] theorem tv_ite (c a b : CE) : CE.tv (.ite c a b) = a.tv ++ b.tv := by rw [CE.tv]
@[simp] theorem pv_ite (c a b : CE) : CE.pv (.ite c a b) = a.pv ++ b.pv := by rw [CE.pv]
@[simp] theorem tv_idx (a i : CE) : CE.tv (.idx a i) = a.pv := by rw [CE.tv]
@[simp] theorem pv_idx (a i : CE) : CE.pv (.idx a i) = a.pv := by rw [CE.pv]
@[simp] theorem tv_slc (a : CE) (l h : Option CE) : CE.tv (.slc a l h) = a.pv := by rw [CE.tv]
@[simp] theorem pv_slc (a : CE) (l h : Option CE) : CE.pv (.slc a l h) = a.pv := by rw [CE.pv]
@[simp] theorem tv_rev (a : CE) : CE.tv (.rev a) = a.pv := by rw [CE.tv]
@[simp] theorem pv_rev (a : CE) : CE.pv (.rev a) = a.pv := by rw [CE.pv]
@[simp] theorem tv_call (f : Nat) (es : List CE) : CE.tv (.call f es) = tvL es := by rw [CE.tv]
@[simp] theorem pv_call (f : Nat) (es : List CE) : CE.pv (.call f es) = tvL es := by rw [CE.pv]
@[simp] theorem tv_bi (b : Bi) (es : List CE) : CE.tv (.bi b es) = tvB es := by rw [CE.tv]
@[simp] theorem pv_bi (b : Bi) (es : List CE) : CE.pv (.bi b es) = tvB es := by rw [CE.pv]
@[simp] theorem tv_bit (b : Bi) (it : IT) : CE.tv (.bit b it) = it.pv := by rw [CE.tv]
@[simp] theorem pv_bit (b : Bi) (it : IT) : CE.pv (.bit b it) = it.pv := by rw [CE.pv]
@[simp] theorem tv_meth (m : Mth) (o : CE) (es : List CE) : CE.tv (.meth m o es) = o.pv ++ tvL es := by rw [CE.tv]
@[simp] theorem pv_meth (m : Mth) (o : CE) (es : List CE) : CE.pv (.meth m o es) = o.pv ++ tvL es := by rw [CE.pv]
@[simp] theorem tv_comp (gs : List Gen) (e : CE) : CE.tv (.comp gs e) = pvG gs ++ e.tv := by rw [CE.tv]
@[simp] theorem pv_comp (gs : List Gen) (e : CE) : CE.pv (.comp gs e) = pvG gs ++ e.tv := by rw [CE.pv]
@[simp] theorem tv_non  : CE.tv (.non) = [] := by simp only [CE.tv]
@[simp] theorem pv_non  : CE.pv (.non) = [] := by simp only [CE.pv]
@[simp] theorem tv_bl (b : Bool) : CE.tv (.bl b) = [] := by simp only [CE.tv]
@[simp] theorem pv_bl (b : Bool) : CE.pv (.bl b) = [] := by simp only [CE.pv]
@[simp] theorem tv_int (i : Int) : CE.tv (.int i) = [] := by simp only [CE.tv]
@[simp] theorem pv_int (i : Int) : CE.pv (.int i) = [] := by simp only [CE.pv]
@[simp] theorem tv_str (s : List Nat) : CE.tv (.str s) = [] := by simp only [CE.tv]
@[simp] theorem pv_str (s : List Nat) : CE.pv (.str s) = [] := by simp only [CE.pv]
@[simp] theorem tv_gl (g : Nat) : CE.tv (.gl g) = [] := by simp only [CE.tv]
@[simp] theorem pv_gl (g : Nat) : CE.pv (.gl g) = [] := by simp only [CE.pv]
@[simp] theorem tv_neg (a : CE) : CE.tv (.neg a) = [] := by simp only [CE.tv]
@[simp] theorem pv_neg (a : CE) : CE.pv (.neg a) = [] := by simp only [CE.pv]
@[simp] theorem tv_not (a : CE) : CE.tv (.not a) = [] := by simp only [CE.tv]
@[simp] theorem pv_not (a : CE) : CE.pv (.not a) = [] := by simp only [CE.pv]
@[simp] theorem tv_cmp (o : Cop) (a b : CE) : CE.tv (.cmp o a b) = [] := by simp only [CE.tv]
@[simp] theorem pv_cmp (o : Cop) (a b : CE) : CE.pv (.cmp o a b) = [] := by simp only [CE.pv]
@[simp] theorem tv_chain (o p : Cop) (a b c : CE) : CE.tv (.chain o p a b c) = [] := by simp only [CE.tv]
@[simp] theorem pv_chain (o p : Cop) (a b c : CE) : CE.pv (.chain o p a b c) = [] := by simp only [CE.pv]
@[simp] theorem tv_isi (t : Ty) (a : CE) : CE.tv (.isi t a) = [] := by simp only [CE.tv]
@[simp] theorem pv_isi (t : Ty) (a : CE) : CE.pv (.isi t a) = [] := by simp only [CE.pv]
@[simp] theorem tv_sset (a : CE) : CE.tv (.sset a) = [] := by simp only [CE.tv]
@[simp] theorem pv_sset (a : CE) : CE.pv (.sset a) = [] := by simp only [CE.pv]
@[simp] theorem tv_lset (a : CE) : CE.tv (.lset a) = [] := by simp only [CE.tv]
@[simp] theorem pv_lset (a : CE) : CE.pv (.lset a) = [] := by simp only [CE.pv]
@[simp] theorem fr_slot (i : Nat) : CE.fresh (.slot i) = false := by simp only [CE.fresh]
@[simp] theorem fr_tup (es : List CE) : CE.fresh (.tup es) = false := by simp only [CE.fresh]
@[simp] theorem fr_lst (es : List CE) : CE.fresh (.lst es) = true := by simp only [CE.fresh]
@[simp] theorem fr_dic (es : List CE) : CE.fresh (.dic es) = true := by simp only [CE.fresh]
@[simp] theorem fr_and (es : List CE) : CE.fresh (.and es) = false := by simp only [CE.fresh]
@[simp] theorem fr_or (es : List CE) : CE.fresh (.or es) = false := by simp only [CE.fresh]
@[simp] theorem fr_ite (c a b : CE) : CE.fresh (.ite c a b) = (a.fresh && b.fresh) := by rw [CE.fresh]
@[simp] theorem fr_idx (a i : CE) : CE.fresh (.idx a i) = false := by simp only [CE.fresh]
@[simp] theorem fr_slc (a : CE) (l h : Option CE) : CE.fresh (.slc a l h) = true := by simp only [CE.fresh]
@[simp] theorem fr_rev (a : CE) : CE.fresh (.rev a) = true := by simp only [CE.fresh]
@[simp] theorem fr_call (f : Nat) (es : List CE) : CE.fresh (.call f es) = false := by simp only [CE.fresh]
@[simp] theorem fr_meth (m : Mth) (o : CE) (es : List CE) : CE.fresh (.meth m o es) = false := by simp only [CE.fresh]
@[simp] theorem fr_comp (gs : List Gen) (e : CE) : CE.fresh (.comp gs e) = true := by simp only [CE.fresh]
@[simp] theorem fr_non  : CE.fresh (.non) = false := by simp only [CE.fresh]
@[simp] theorem fr_bl (b : Bool) : CE.fresh (.bl b) = false := by simp only [CE.fresh]
@[simp] theorem fr_int (i : Int) : CE.fresh (.int i) = false := by simp only [CE.fresh]
@[simp] theorem fr_str (s : List Nat) : CE.fresh (.str s) = false := by simp only [CE.fresh]
@[simp] theorem fr_gl (g : Nat) : CE.fresh (.gl g) = false := by simp only [CE.fresh]
@[simp] theorem fr_neg (a : CE) : CE.fresh (.neg a) = false := by simp only [CE.fresh]
@[simp] theorem fr_not (a : CE) : CE.fresh (.not a) = false := by simp only [CE.fresh]
@[simp] theorem fr_cmp (o : Cop) (a b : CE) : CE.fresh (.cmp o a b) = false := by simp only [CE.fresh]
@[simp] theorem fr_chain (o p : Cop) (a b c : CE) : CE.fresh (.chain o p a b c) = false := by simp only [CE.fresh]
@[simp] theorem fr_isi (t : Ty) (a : CE) : CE.fresh (.isi t a) = false := by simp only [CE.fresh]
@[simp] theorem fr_sset (a : CE) : CE.fresh (.sset a) = true := by simp only [CE.fresh]
@[simp] theorem fr_lset (a : CE) : CE.fresh (.lset a) = false := by simp only [CE.fresh]
@[simp] theorem fr_bin_add (a b : CE) : CE.fresh (.bin .add a b) = true := by simp only [CE.fresh]
@[simp] theorem fr_bin_sub (a b : CE) : CE.fresh (.bin .sub a b) = false := by simp only [CE.fresh]
@[simp] theorem fr_bin_mul (a b : CE) : CE.fresh (.bin .mul a b) = true := by simp only [CE.fresh]
@[simp] theorem fr_bin_fdiv (a b : CE) : CE.fresh (.bin .fdiv a b) = false := by simp only [CE.fresh]
@[simp] theorem fr_bin_mod (a b : CE) : CE.fresh (.bin .mod a b) = false := by simp only [CE.fresh]
@[simp] theorem fr_bin_pow (a b : CE) : CE.fresh (.bin .pow a b) = false := by simp only [CE.fresh]
@[simp] theorem fr_bin_band (a b : CE) : CE.fresh (.bin .band a b) = false := by simp only [CE.fresh]
@[simp] theorem fr_bin_shl (a b : CE) : CE.fresh (.bin .shl a b) = false := by simp only [CE.fresh]
@[simp] theorem fr_bin_shr (a b : CE) : CE.fresh (.bin .shr a b) = false := by simp only [CE.fresh]
@[simp] theorem fr_bi_len (es : List CE) : CE.fresh (.bi .len es) = false := by simp only [CE.fresh]
@[simp] theorem fr_bit_len (it : IT) : CE.fresh (.bit .len it) = false := by simp only [CE.fresh]
@[simp] theorem fr_bi_tuple (es : List CE) : CE.fresh (.bi .tuple es) = false := by simp only [CE.fresh]
@[simp] theorem fr_bit_tuple (it : IT) : CE.fresh (.bit .tuple it) = false := by simp only [CE.fresh]
@[simp] theorem fr_bi_list (es : List CE) : CE.fresh (.bi .list es) = true := by simp only [CE.fresh]
@[simp] theorem fr_bit_list (it : IT) : CE.fresh (.bit .list it) = true := by simp only [CE.fresh]
@[simp] theorem fr_bi_dict (es : List CE) : CE.fresh (.bi .dict es) = true := by simp only [CE.fresh]
@[simp] theorem fr_bit_dict (it : IT) : CE.fresh (.bit .dict it) = false := by simp only [CE.fresh]
@[simp] theorem fr_bi_sorted (es : List CE) : CE.fresh (.bi .sorted es) = true := by simp only [CE.fresh]
@[simp] theorem fr_bit_sorted (it : IT) : CE.fresh (.bit .sorted it) = true := by simp only [CE.fresh]
@[simp] theorem fr_bi_sum (es : List CE) : CE.fresh (.bi .sum es) = false := by simp only [CE.fresh]
@[simp] theorem fr_bit_sum (it : IT) : CE.fresh (.bit .sum it) = false := by simp only [CE.fresh]
@[simp] theorem fr_bi_min (es : List CE) : CE.fresh (.bi .min es) = false := by simp only [CE.fresh]
@[simp] theorem fr_bit_min (it : IT) : CE.fresh (.bit .min it) = false := by simp only [CE.fresh]
@[simp] theorem fr_bi_max (es : List CE) : CE.fresh (.bi .max es) = false := by simp only [CE.fresh]
@[simp] theorem fr_bit_max (it : IT) : CE.fresh (.bit .max it) = false := by simp only [CE.fresh]
@[simp] theorem fr_bi_all (es : List CE) : CE.fresh (.bi .all es) = false := by simp only [CE.fresh]
@[simp] theorem fr_bit_all (it : IT) : CE.fresh (.bit .all it) = false := by simp only [CE.fresh]
@[simp] theorem fr_bi_any (es : List CE) : CE.fresh (.bi .any es) = false := by simp only [CE.fresh]
@[simp] theorem fr_bit_any (it : IT) : CE.fresh (.bit .any it) = false := by simp only [CE.fresh]
@[simp] theorem fr_bi_int (es : List CE) : CE.fresh (.bi .int es) = false := by simp only [CE.fresh]
@[simp] theorem fr_bit_int (it : IT) : CE.fresh (.bit .int it) = false := by simp only [CE.fresh]
@[simp] theorem fr_bi_str (es : List CE) : CE.fresh (.bi .str es) = false := by simp only [CE.fresh]
@[simp] theorem fr_bit_str (it : IT) : CE.fresh (.bit .str it) = false := by simp only [CE.fresh]
@[simp] theorem fr_bi_abs (es : List CE) : CE.fresh (.bi .abs es) = false := by simp only [CE.fresh]
@[simp] theorem fr_bit_abs (it : IT) : CE.fresh (.bit .abs it) = false := by simp only [CE.fresh]
@[simp] theorem tvB_nil  : tvB [] = [] := by rw [tvB]
@[simp] theorem tvB_one (e : CE) : tvB [e] = e.pv := by rw [tvB]
@[simp] theorem tvB_two (e f : CE) (es : List CE) : tvB (e :: f :: es) = e.tv ++ tvL (f :: es) := by simp only [tvB]
@[simp] theorem tvL_nil  : tvL [] = [] := by rw [tvL]
@[simp] theorem tvL_cons (e : CE) (es : List CE) : tvL (e :: es) = e.tv ++ tvL es := by rw [tvL]
@[simp] theorem pvL_nil  : pvL [] = [] := by rw [pvL]
@[simp] theorem pvL_cons (e : CE) (es : List CE) : pvL (e :: es) = e.pv ++ pvL es := by rw [pvL]
@[simp] theorem pvI_val (e : CE) : IT.pv (.val e) = e.pv := by rw [IT.pv]
@[simp] theorem pvI_rng (e : List CE) : IT.pv (.rng e) = [] := by rw [IT.pv]
@[simp] theorem pvI_items (e : CE) : IT.pv (.items e) = e.pv := by rw [IT.pv]
@[simp] theorem pvI_zip (a b : CE) : IT.pv (.zip a b) = a.pv ++ b.pv := by rw [IT.pv]
@[simp] theorem pvG_nil  : pvG [] = [] := by rw [pvG]
@[simp] theorem pvG_cons (t : Tgt) (it : IT) (ifs : List CE) (gs : List Gen) : pvG (.mk t it ifs :: gs) = it.pv ++ pvG gs := by rw [pvG]
theorem call_of {tab : List FC} {f : Nat} {fc : FC} (h : tab[f]? = some fc) (gl : Nat → Option PV) (W k : Nat) (args : List PV) (S : Store) :
    callAt tab gl W (k + 1) f args S = (do need (decide (args.length = fc.np)); let out ← evB (callAt tab gl W k) gl W (startE fc args) fc.body S; finishC S.length out) := by
  rw [callAt, h]
theorem call_lit {tab : List FC} {f np n : Nat} {body : List CS} (h : tab[f]? = some ⟨np, n, body⟩) (gl : Nat → Option PV) (W k : Nat) (args : List PV) (S : Store) :
    callAt tab gl W (k + 1) f args S = (do need (decide (args.length = np)); let out ← evB (callAt tab gl W k) gl W (args.map .fz ++ List.replicate (n - np) .un) body S; finishC S.length out) := by
  rw [callAt, h]; rfl
/-! ### forms -/
@[simp] theorem sl_hi (l : List PV) (m : Int) : slice (.lst l) none (some (.int m)) = (do need (small62 m); .ok (.lst (cut l none (some m)))) := by
  simp only [slice, asOpt, ok_bind]
  cases small62 m <;> rfl
@[simp] theorem sl_lo (l : List PV) (m : Int) : slice (.lst l) (some (.int m)) none = (do need (small62 m); .ok (.lst (cut l (some m) none))) := by
  simp only [slice, asOpt, ok_bind]
  cases small62 m <;> rfl
@[simp] theorem opt_join {α : Type} (a : Option α) : (some a).join = a := id rfl
@[simp] theorem ofOpt_some' {α : Type} (a : α) : ofOpt (some a) = .ok a := id rfl
@[simp] theorem tr_bl (b : Bool) : truthy (.bl b) = .ok b := id rfl
@[simp] theorem tr_non : truthy .non = .ok false := id rfl
@[simp] theorem tr_lst (l : List PV) : truthy (.lst l) = .ok !l.isEmpty := id rfl
@[simp] theorem tr_tup (l : List PV) : truthy (.tup l) = .ok !l.isEmpty := id rfl
@[simp] theorem tr_str (l : List Nat) : truthy (.str l) = .ok !l.isEmpty := id rfl
@[simp] theorem c_eq (a b : PV) : cmpop .eq a b = eqE a b := id rfl
@[simp] theorem c_ne (a b : PV) : cmpop .ne a b = (do let r ← eqE a b; .ok !r) := id rfl
@[simp] theorem c_lt (a b : PV) : cmpop .lt a b = ltE a b := id rfl
@[simp] theorem c_gt (a b : PV) : cmpop .gt a b = ltE b a := id rfl
@[simp] theorem c_le (a b : PV) : cmpop .le a b = (do let r ← ltE b a; .ok !r) := id rfl
@[simp] theorem c_ge (a b : PV) : cmpop .ge a b = (do let r ← ltE a b; .ok !r) := id rfl
@[simp] theorem c_mem (a b : PV) : cmpop .mem a b = memE a b := id rfl
@[simp] theorem c_nmem (a b : PV) : cmpop .nmem a b = (do let r ← memE a b; .ok !r) := id rfl
@[simp] theorem c_is (a b : PV) : cmpop .is a b = isE a b := id rfl
@[simp] theorem c_isn (a b : PV) : cmpop .isn a b = (do let r ← isE a b; .ok !r) := id rfl
@[simp] theorem eq_int (i j : Int) : eqE (.int i) (.int j) = .ok (i == j) := id rfl
@[simp] theorem eq_str (i j : List Nat) : eqE (.str i) (.str j) = .ok (i == j) := id rfl
@[simp] theorem eq_bl (i j : Bool) : eqE (.bl i) (.bl j) = .ok (i == j) := id rfl
theorem eq_okD {a b : PV} (ha : a.okD = true) (hb : b.okD = true) : eqE a b = .ok (a.eqv b) := by
  unfold eqE
  split
  · cases ha
  · rw [ha, hb]; rfl
@[simp] theorem lt_int (i j : Int) : ltE (.int i) (.int j) = .ok (decide (i < j)) := id rfl
@[simp] theorem lt_str (i j : List Nat) : ltE (.str i) (.str j) = .ok (ltN i j) := id rfl
@[simp] theorem is_non (v : PV) : isE v .non = .ok v.isNon := by cases v <;> rfl
@[simp] theorem isNon_non : PV.isNon .non = true := id rfl
@[simp] theorem isNon_int (i : Int) : PV.isNon (.int i) = false := id rfl
@[simp] theorem isNon_str (i : List Nat) : PV.isNon (.str i) = false := id rfl
@[simp] theorem isNon_tup (i : List PV) : PV.isNon (.tup i) = false := id rfl
@[simp] theorem isNon_lst (i : List PV) : PV.isNon (.lst i) = false := id rfl
@[simp] theorem isNon_dct (i : List (PV × PV)) : PV.isNon (.dct i) = false := id rfl
@[simp] theorem isNon_bl (i : Bool) : PV.isNon (.bl i) = false := id rfl
@[simp] theorem b_add (i j : Int) : binop .add (.int i) (.int j) = .ok (.int (i + j)) := id rfl
@[simp] theorem b_sub (i j : Int) : binop .sub (.int i) (.int j) = .ok (.int (i - j)) := id rfl
@[simp] theorem b_mul (i j : Int) : binop .mul (.int i) (.int j) = (do need (big64 i || big64 j); .ok (.int (i * j))) := id rfl
@[simp] theorem b_fdiv (i j : Int) : binop .fdiv (.int i) (.int j) = (do need (decide (0 < j ∧ j < 1073741824)); .ok (.int (i / j))) := id rfl
@[simp] theorem b_mod (i j : Int) : binop .mod (.int i) (.int j) = (do need (decide (0 < j)); .ok (.int (i % j))) := id rfl
@[simp] theorem b_lst (x y : List PV) : binop .add (.lst x) (.lst y) = (do need (fitsL (x ++ y)); .ok (.lst (x ++ y))) := id rfl
@[simp] theorem b_tup (x y : List PV) : binop .add (.tup x) (.tup y) = (do need (fitsL (x ++ y)); .ok (.tup (x ++ y))) := id rfl
@[simp] theorem b_str (x y : List Nat) : binop .add (.str x) (.str y) = (do need (fitsL (x ++ y)); .ok (.str (x ++ y))) := id rfl
@[simp] theorem su_lst (l : List PV) (i : Int) : subscr (.lst l) (.int i) = (do need (small62 i); ofOpt (atL l i)) := id rfl
@[simp] theorem su_tup (l : List PV) (i : Int) : subscr (.tup l) (.int i) = (do need (small62 i); ofOpt (atL l i)) := id rfl
@[simp] theorem su_dct (l : List (PV × PV)) (k : PV) : subscr (.dct l) k = (do need k.isKey; ofOpt (dGet l k)) := id rfl
@[simp] theorem su_scr (l : List Int) (i : Int) : subscr (.scr l) (.int i) = (do need (small62 i); let n ← ofOpt (atL l i); .ok (.int n)) := id rfl
@[simp] theorem wk_lst (l : List PV) : walk (.lst l) = .ok l := id rfl
@[simp] theorem wk_tup (l : List PV) : walk (.tup l) = .ok l := id rfl
@[simp] theorem wk_dct (l : List (PV × PV)) : walk (.dct l) = .ok (l.map (·.1)) := id rfl
@[simp] theorem rg_1 (n : Int) : rangeE [.int n] = (do need (small62 n && decide (n ≤ 16777216)); .ok (rangeL 0 n 1)) := id rfl
@[simp] theorem bi_len_lst (l : List PV) : builtin .len [.lst l] = .ok (.int l.length) := id rfl
@[simp] theorem bi_len_tup (l : List PV) : builtin .len [.tup l] = .ok (.int l.length) := id rfl
@[simp] theorem bi_len_dct (l : List (PV × PV)) : builtin .len [.dct l] = .ok (.int l.length) := id rfl
@[simp] theorem bi_len_scr (l : List Int) : builtin .len [.scr l] = .ok (.int l.length) := id rfl
@[simp] theorem bi_len_str (l : List Nat) : builtin .len [.str l] = .ok (.int l.length) := id rfl
@[simp] theorem bi_tuple (l : List PV) : builtin .tuple [.lst l] = (do need (fitsL l); .ok (.tup l)) := id rfl
@[simp] theorem bi_tuple_t (l : List PV) : builtin .tuple [.tup l] = .ok (.tup l) := id rfl
@[simp] theorem bi_sorted_l (l : List PV) : builtin .sorted [.lst l] = sortedE l := id rfl
@[simp] theorem bi_sorted_t (l : List PV) : builtin .sorted [.tup l] = sortedE l := id rfl
@[simp] theorem bi_sorted_d (l : List (PV × PV)) : builtin .sorted [.dct l] = sortedE (l.map (·.1)) := id rfl
@[simp] theorem bi_dict_d (l : List (PV × PV)) : builtin .dict [.dct l] = (do need (l.all fun kv => kv.1.isMix); .ok (.dct l)) := id rfl
@[simp] theorem bi_dict_l (l : List PV) : builtin .dict [.lst l] = (do let ps ← pairsOf l; need (fitsL l); .ok (.dct (dUpd [] ps))) := id rfl
@[simp] theorem bi_int_i (i : Int) : builtin .int [.int i] = .ok (.int i) := id rfl
@[simp] theorem bi_abs (i : Int) : builtin .abs [.int i] = .ok (.int (if i < 0 then -i else i)) := id rfl
@[simp] theorem bi_all (l : List PV) : builtin .all [.lst l] = (do let r ← boolsOf l; .ok (.bl (r.all id))) := id rfl
@[simp] theorem bi_any (l : List PV) : builtin .any [.lst l] = (do let r ← boolsOf l; .ok (.bl (r.any id))) := id rfl
@[simp] theorem me_get (l : List (PV × PV)) (k : PV) : method .get (.dct l) [k] = (do need k.isKey; .ok ((dGet l k).getD .non)) := id rfl
@[simp] theorem me_get2 (l : List (PV × PV)) (k d : PV) : method .get (.dct l) [k, d] = (do need k.isKey; .ok ((dGet l k).getD d)) := id rfl
@[simp] theorem me_count (l : List PV) (x : PV) : method .count (.lst l) [x] = (do need (plainL l && decide (depthL l ≤ 60) && x.okD); .ok (.int (l.countP fun z => z.eqv x))) := id rfl
@[simp] theorem key_int (i : Int) : PV.isKey (.int i) = true := id rfl
@[simp] theorem key_str (i : List Nat) : PV.isKey (.str i) = true := id rfl
@[simp] theorem key_non : PV.isKey .non = true := id rfl
@[simp] theorem mix_str (i : List Nat) : PV.isMix (.str i) = true := id rfl
@[simp] theorem mix_int (i : Int) : PV.isMix (.int i) = true := id rfl
@[simp] theorem mu_app (l : List PV) (v : PV) : mutE .append (.lst l) v = (do need (decide (l.length < line)); .ok (.lst (l ++ [v]))) := id rfl
@[simp] theorem mu_ext (l m : List PV) : mutE .extend (.lst l) (.lst m) = (do need (fitsL (l ++ m)); .ok (.lst (l ++ m))) := id rfl
@[simp] theorem mu_upd (l m : List (PV × PV)) : mutE .update (.dct l) (.dct m) = (do need (decide (l.length + m.length < line) && (l.all fun kv => kv.1.isMix) && m.all fun kv => kv.1.isMix); .ok (.dct (dUpd l m))) := id rfl
@[simp] theorem pu_dct (l : List (PV × PV)) (k v : PV) : putE (.dct l) k v = (do need (k.isKey && decide (l.length < line)); .ok (.dct (dPut l k v))) := id rfl
@[simp] theorem au_add (i j : Int) : augE .add (.int i) (.int j) = .ok (i + j) := id rfl
@[simp] theorem au_sub (i j : Int) : augE .sub (.int i) (.int j) = .ok (i - j) := id rfl
@[simp] theorem ty_tup_tup (l : List PV) : isTy .tuple (.tup l) = true := id rfl
@[simp] theorem ty_dct_dct (l : List (PV × PV)) : isTy .dict (.dct l) = true := id rfl
/-- a list, taken by a place within -/
theorem at_nat {α : Type} {l : List α} {n : Nat} (h : n < l.length) : atL l (n : Int) = some l[n] := by
  have h0 : place l.length (n : Int) = some n := by
    unfold place
    rw [if_pos (Int.natCast_nonneg n), if_pos (by omega)]; rfl
  simp only [atL, h0, Option.bind, List.getElem?_eq_getElem h]
theorem at_nat' {α : Type} {l : List α} {i : Int} (h0 : 0 ≤ i) (h : i.toNat < l.length) : atL l i = some l[i.toNat] := by
  have := at_nat h
  rwa [Int.toNat_of_nonneg h0] at this
theorem need_of {b : Bool} (h : b = true) : need b = .ok () := by rw [h]; rfl
theorem need_dec {p : Prop} [Decidable p] (h : p) : need (decide p) = .ok () := need_of (decide_eq_true h)
/-! ### the draws -/
abbrev kDraws : List Nat := [100, 114, 97, 119, 115]
abbrev kAt : List Nat := [97, 116]
abbrev wst (ds : List Int) (n : Int) : Store := [.dct [(.str kDraws, .lst (ds.map .int)), (.str kAt, .int n)]]
/-- the store of a law under way -/
def Wst (S : Store) : Prop := ∃ ds n, S = wst ds n ∧ 0 ≤ n ∧ ds.length ≤ 16777216
theorem Wst.len {S : Store} (h : Wst S) : S.length = 1 := by obtain ⟨ds, n, rfl, _⟩ := h; rfl
theorem cbL_int (k : Nat) : ∀ ds : List Int, cbL k (ds.map PV.int) = true
  | [] => rfl
  | _ :: ds => by rw [List.map_cons, cbL, cbL_int k ds]; rfl
theorem Wst.cb {S : Store} (h : Wst S) : (S.all fun v => v.cb 1) = true := by
  obtain ⟨ds, n, rfl, _⟩ := h
  simp [wst, PV.cb, cbD, cbL_int]
theorem Wst.fin {S : Store} (h : Wst S) {v : PV} (hv : v.cb 1 = true) (env : Env) : finishC 1 (.ret v, env, S) = .ok (v, S) := by
  have hl := h.len
  have : S.take 1 = S := List.take_of_length_le (by omega)
  simp only [finishC, this, hv, h.cb, Bool.and_self, need_true, ok_bind]
theorem emp_fin {v : PV} (hv : v.cb 0 = true) (env : Env) : finishC 0 (.ret v, env, []) = .ok (v, []) := by
  simp only [finishC, List.take_nil, hv, List.all_nil, Bool.and_self, need_true, ok_bind]
theorem small_of {i : Int} (h0 : 0 ≤ i) (h : i ≤ 16777216) : small62 i = true := decide_eq_true ⟨by omega, by omega⟩
def cNext : FC := ⟨2, 2, [(.augi 0 (.str [97, 116]) .add (.int 1)),
  (.ifs (.cmp .gt (.idx (.slot 0) (.str [97, 116])) (.bi .len [(.idx (.slot 0) (.str [100, 114, 97, 119, 115]))])) [(.ret (.int 0))]
   []),
  (.ret (.bin .mod (.bi .int [(.idx (.idx (.slot 0) (.str [100, 114, 97, 119, 115])) (.bin .sub (.idx (.slot 0) (.str [97, 116])) (.int 1)))]) (.slot 1)))]⟩
section
variable {tab : List FC} {gl : Nat → Option PV} {W f : Nat}
theorem s_augi {cf : CallF} {env : Env} {x n : Nat} {k e : CE} {op : Bop} {S S1 S2 : Store} {kv v : PV} {l l2 : List (PV × PV)} {old : PV} {r : Int}
    (hx : env[x]? = some (.fz (.cel n))) (hk : evE cf gl (vals env) k S = .ok (kv, S1)) (ho : S1[n]? = some (.dct l)) (hky : kv.isKey = true) (hg : dGet l kv = some old)
    (he : evE cf gl (vals env) e S1 = .ok (v, S2)) (hr : augE op old v = .ok r) (h2 : S2[n]? = some (.dct l2)) (hl : l2.length < line) :
    evS cf gl W env (.augi x k op e) S = .ok (.nx, env, S2.set n (.dct (dPut l2 kv (.int r)))) := by
  rw [evS, hx]
  simp only [hk, ok_bind, ho, ofOpt_some, need_of hky, hg, he, hr, h2, need_dec hl]
theorem next_ok (h : tab[f]? = some cNext) {k : Nat} {S : Store} (hS : Wst S) {m : Int} (hm : 0 < m) :
    ∃ i S', callAt tab gl W (k + 1) f [.cel 0, .int m] S = .ok (.int i, S') ∧ 0 ≤ i ∧ i < m ∧ Wst S' := by
  obtain ⟨ds, n, rfl, hn, hds⟩ := hS
  rw [call_of h]
  have e0 : startE cNext [.cel 0, .int m] = [.fz (.cel 0), .fz (.int m)] := rfl
  have e1 : (wst ds n).set 0 (.dct (dPut [(.str kDraws, .lst (ds.map .int)), (.str kAt, .int n)] (.str kAt) (.int (n + 1)))) = wst ds (n + 1) := rfl
  have e2 : dGet [(PV.str kDraws, PV.lst (ds.map .int)), (.str kAt, .int (n + 1))] (.str [97, 116]) = some (.int (n + 1)) := rfl
  have e3 : dGet [(PV.str kDraws, PV.lst (ds.map .int)), (.str kAt, .int (n + 1))] (.str [100, 114, 97, 119, 115]) = some (.lst (ds.map .int)) := rfl
  have e4 : (wst ds (n + 1))[0]? = some (.dct [(.str kDraws, .lst (ds.map .int)), (.str kAt, .int (n + 1))]) := rfl
  rw [e0]
  simp only [cNext]
  rw [s_cons, s_augi (n := 0) (S1 := wst ds n) (S2 := wst ds n) (kv := .str kAt) (v := .int 1) (old := .int n) (r := n + 1) (l := [(.str kDraws, .lst (ds.map .int)), (.str kAt, .int n)]) (l2 := [(.str kDraws, .lst (ds.map .int)), (.str kAt, .int n)]) rfl (by simp only [x_str]) rfl rfl rfl (by simp only [x_int]) rfl rfl (show 2 < line by decide)]
  by_cases hlt : (ds.length : Int) < n + 1
  · have hW : Wst (wst ds (n + 1)) := ⟨ds, n + 1, rfl, by omega, hds⟩
    refine ⟨0, wst ds (n + 1), ?_, by omega, hm, hW⟩
    simp [e1, e2, e3, e4, hlt]
    exact hW.fin rfl _
  · have hW : Wst (wst ds (n + 1)) := ⟨ds, n + 1, rfl, by omega, hds⟩
    have hat : atL (ds.map PV.int) n = some (.int (ds[n.toNat]'(by omega))) := by
      rw [at_nat' hn (by rw [List.length_map]; omega), List.getElem_map]
    refine ⟨ds[n.toNat]'(by omega) % m, wst ds (n + 1), ?_, Int.emod_nonneg _ (by omega), Int.emod_lt_of_pos _ hm, hW⟩
    have e5 : n + 1 - 1 = n := by omega
    simp [e1, e2, e3, e4, e5, hlt, small_of hn (by omega : n ≤ 16777216), hat, hm]
    exact hW.fin rfl _
end
/-- a for whose rounds all go on -/
theorem for_inv {t : Tgt} {body : Env → Store → Res Out} (I : List PV → Env → Store → Prop)
    (hs : ∀ x r env S, I (x :: r) env S → ∃ e f env' S', bindE t x env = .ok e ∧ body e S = .ok (f, env', S') ∧ (f = .nx ∨ f = .cont) ∧ I r env' S') :
    ∀ l env S, I l env S → ∃ env' S', forL t body l env S = .ok (.nx, env', S') ∧ I [] env' S'
  | [], env, S, h => ⟨env, S, for_nil .., h⟩
  | x :: r, env, S, h => by
    obtain ⟨e, f, env', S', h1, h2, h3, h4⟩ := hs x r env S h
    obtain ⟨env2, S2, h5, h6⟩ := for_inv I hs r env' S' h4
    refine ⟨env2, S2, ?_, h6⟩
    rw [for_cons, h1, ok_bind, h2, ok_bind]
    rcases h3 with rfl | rfl <;> exact h5
theorem rangeL_up (n : Int) : rangeL 0 n 1 = (List.range n.toNat).map fun (k : Nat) => PV.int k := by
  unfold rangeL
  rw [if_pos (by decide)]
  have : ((n - 0 + 1 - 1) / 1).toNat = n.toNat := by omega
  rw [this]
  exact List.map_congr_left fun k _ => by congr 1; omega
def cDraws : FC := ⟨2, 8, [(.set 2 (.lst [])),
  (.set 3 (.int 7)),
  (.for (.nm 4) (.rng [(.bi .len [(.slot 0)])]) [(.set 5 (.bi .abs [(.bi .int [(.idx (.slot 0) (.slot 4))])])),
   (.set 3 (.bin .mod (.bi .int [(.bin .add (.bin .add (.bin .mul (.slot 3) (.int 48271)) (.bin .mod (.slot 5) (.int 1000003))) (.slot 4))]) (.int 65537))),
   (.set 6 (.int 0)),
   (.ifs (.cmp .ge (.slot 5) (.bin .pow (.int 10) (.int 18))) [(.set 6 (.slot 5))]
    [(.mut .append 2 (.bin .mod (.bi .int [(.slot 5)]) (.int 997))),
    (.mut .append 2 (.bin .mod (.bin .mod (.bi .int [(.bin .add (.bin .mul (.slot 3) (.int 69621)) (.int 5))]) (.int 65521)) (.int 997)))]),
   (.for (.nm 7) (.rng [(.int 60)]) [(.ifs (.cmp .gt (.slot 6) (.int 0)) [(.mut .append 2 (.bin .mod (.bi .int [(.slot 6)]) (.int 997))),
     (.set 6 (.bin .fdiv (.slot 6) (.int 997)))]
     [])])]),
  (.for (.nm 4) (.rng [(.slot 1)]) [(.set 3 (.bin .mod (.bi .int [(.bin .add (.bin .add (.bin .mul (.slot 3) (.int 16807)) (.slot 4)) (.int 1))]) (.int 65537))),
   (.mut .append 2 (.bin .mod (.bi .int [(.slot 3)]) (.int 997)))]),
  (.ret (.slc (.slot 2) none (some (.slot 1))))]⟩
section
variable {tab : List FC} {gl : Nat → Option PV} {W f : Nat}
theorem draws_in (cf : CallF) (a b c d e : Sl) (S : Store) : ∀ (l : List PV) (ds : List Int) (r : Int) (z : Sl), ds.length + l.length < 10000 →
    ∃ (ds' : List Int) (r' : Int) (z' : Sl), forL (.nm 7) (bodyB cf gl W [(.ifs (.cmp .gt (.slot 6) (.int 0)) [(.mut .append 2 (.bin .mod (.bi .int [(.slot 6)]) (.int 997))), (.set 6 (.bin .fdiv (.slot 6) (.int 997)))] [])]) l
      [a, b, .ow (.lst (ds.map .int)), c, d, e, .fz (.int r), z] S = .ok (.nx, [a, b, .ow (.lst (ds'.map .int)), c, d, e, .fz (.int r'), z'], S) ∧ ds'.length ≤ ds.length + l.length
  | [], ds, r, z, _ => ⟨ds, r, z, by rw [for_nil], Nat.le_refl _⟩
  | x :: l, ds, r, z, h => by
    rw [List.length_cons] at h
    rw [for_cons]
    by_cases hr : 0 < r
    · obtain ⟨ds', r', z', h1, h2⟩ := draws_in cf a b c d e S l (ds ++ [r % 997]) (r / 997) (.fz x) (by rw [List.length_append, List.length_singleton]; omega)
      refine ⟨ds', r', z', ?_, by rw [List.length_append, List.length_singleton] at h2; rw [List.length_cons]; omega⟩
      simp [hr, show ds.length < line from by unfold line; omega]
      rw [← h1]
      simp
    · obtain ⟨ds', r', z', h1, h2⟩ := draws_in cf a b c d e S l ds r (.fz x) (by omega)
      refine ⟨ds', r', z', ?_, by rw [List.length_cons]; omega⟩
      simp [hr]
      exact h1
theorem pow_lit : binop .pow (.int 10) (.int 18) = .ok (.int 1000000000000000000) := by
  have h : need (decide ((0:Int) ≤ 18 ∧ (18:Int) ≤ 1000 ∧ (10:Int).natAbs < 2 ^ 64)) = .ok () := need_dec (by decide)
  have h2 : (10:Int) ^ (18:Int).toNat = 1000000000000000000 := by
    rw [show (18:Int).toNat = 18 from rfl]; simp
  rw [← h2]
  simp only [binop, h, ok_bind]
theorem draws_out (cf : CallF) (ns : List Int) (m : Int) (S : Store) : ∀ (l : List Nat) (ds : List Int) (x : Int) (z4 z5 z6 z7 : Sl), (∀ k ∈ l, k < ns.length) → ns.length < 1000 → ds.length + 62 * l.length < 9000 →
    ∃ (ds' : List Int) (x' : Int) (z4' z5' z6' z7' : Sl), forL (.nm 4) (bodyB cf gl W [(.set 5 (.bi .abs [(.bi .int [(.idx (.slot 0) (.slot 4))])])),
   (.set 3 (.bin .mod (.bi .int [(.bin .add (.bin .add (.bin .mul (.slot 3) (.int 48271)) (.bin .mod (.slot 5) (.int 1000003))) (.slot 4))]) (.int 65537))),
   (.set 6 (.int 0)),
   (.ifs (.cmp .ge (.slot 5) (.bin .pow (.int 10) (.int 18))) [(.set 6 (.slot 5))]
    [(.mut .append 2 (.bin .mod (.bi .int [(.slot 5)]) (.int 997))),
    (.mut .append 2 (.bin .mod (.bin .mod (.bi .int [(.bin .add (.bin .mul (.slot 3) (.int 69621)) (.int 5))]) (.int 65521)) (.int 997)))]),
   (.for (.nm 7) (.rng [(.int 60)]) [(.ifs (.cmp .gt (.slot 6) (.int 0)) [(.mut .append 2 (.bin .mod (.bi .int [(.slot 6)]) (.int 997))),
     (.set 6 (.bin .fdiv (.slot 6) (.int 997)))]
     [])])]) (l.map fun (k : Nat) => PV.int k)
      [.fz (.scr ns), .fz (.int m), .ow (.lst (ds.map .int)), .fz (.int x), z4, z5, z6, z7] S = .ok (.nx, [.fz (.scr ns), .fz (.int m), .ow (.lst (ds'.map .int)), .fz (.int x'), z4', z5', z6', z7'], S) ∧ ds'.length ≤ ds.length + 62 * l.length
  | [], ds, x, z4, z5, z6, z7, _, _, _ => ⟨ds, x, z4, z5, z6, z7, by rw [List.map_nil, for_nil], Nat.le_refl _⟩
  | k :: l, ds, x, z4, z5, z6, z7, hk, hn, h => by
    have hk1 := hk k List.mem_cons_self
    rw [List.length_cons] at h
    rw [List.map_cons, for_cons]
    have hat : atL ns (k : Int) = some ns[k] := at_nat hk1
    have hsm : small62 (k : Int) = true := small_of (by omega) (by omega)
    have hb (a : Int) : (big64 a || big64 48271) = true := by rw [show big64 48271 = true from by decide, Bool.or_true]
    have hb2 (a : Int) : (big64 a || big64 69621) = true := by rw [show big64 69621 = true from by decide, Bool.or_true]
    generalize hc : (if ns[k] < 0 then -ns[k] else ns[k]) = c
    by_cases hlt : c < 1000000000000000000
    · obtain ⟨ds1, r1, z1, e1, l1⟩ := draws_in (gl := gl) (W := W) cf (.fz (.scr ns)) (.fz (.int m)) (.fz (.int ((x * 48271 + c % 1000003 + k) % 65537))) (.fz (.int k)) (.fz (.int c)) S (rangeL 0 60 1) (ds ++ [c % 997, ((x * 48271 + c % 1000003 + k) % 65537 * 69621 + 5) % 65521 % 997]) 0 z7 (by rw [rangeL_up, List.length_append, List.length_map]; simp; omega)
      have l2 : ds1.length ≤ ds.length + 62 := by rw [rangeL_up, List.length_append, List.length_map] at l1; simpa [Nat.add_assoc] using l1
      obtain ⟨ds2, x2, y4, y5, y6, y7, e2, l3⟩ := draws_out cf ns m S l ds1 ((x * 48271 + c % 1000003 + k) % 65537) (.fz (.int k)) (.fz (.int c)) (.fz (.int r1)) z1 (fun j hj => hk j (List.mem_cons_of_mem _ hj)) hn (by omega)
      refine ⟨ds2, x2, y4, y5, y6, y7, ?_, by rw [List.length_cons]; omega⟩
      rw [← e2]
      rw [List.map_append] at e1
      simp only [List.map_cons, List.map_nil] at e1
      simp [hat, hsm, pow_lit, hb, hb2, hc, hlt, show ds.length < line from by unfold line; omega, show ds.length + 1 < line from by unfold line; omega, show small62 60 = true from by decide, e1]
    · obtain ⟨ds1, r1, z1, e1, l1⟩ := draws_in (gl := gl) (W := W) cf (.fz (.scr ns)) (.fz (.int m)) (.fz (.int ((x * 48271 + c % 1000003 + k) % 65537))) (.fz (.int k)) (.fz (.int c)) S (rangeL 0 60 1) ds c z7 (by rw [rangeL_up, List.length_map]; simp; omega)
      have l2 : ds1.length ≤ ds.length + 60 := by rw [rangeL_up, List.length_map] at l1; simpa [Nat.add_assoc] using l1
      obtain ⟨ds2, x2, y4, y5, y6, y7, e2, l3⟩ := draws_out cf ns m S l ds1 ((x * 48271 + c % 1000003 + k) % 65537) (.fz (.int k)) (.fz (.int c)) (.fz (.int r1)) z1 (fun j hj => hk j (List.mem_cons_of_mem _ hj)) hn (by omega)
      refine ⟨ds2, x2, y4, y5, y6, y7, ?_, by rw [List.length_cons]; omega⟩
      rw [← e2]
      simp [hat, hsm, pow_lit, hb, hc, hlt, show small62 60 = true from by decide, e1]
theorem draws_end (cf : CallF) (ns : List Int) (m : Int) (S : Store) (z5 z6 z7 : Sl) : ∀ (l : List Nat) (ds : List Int) (x : Int) (z4 : Sl), ds.length + l.length < 10000 →
    ∃ (ds' : List Int) (x' : Int) (z4' : Sl), forL (.nm 4) (bodyB cf gl W [(.set 3 (.bin .mod (.bi .int [(.bin .add (.bin .add (.bin .mul (.slot 3) (.int 16807)) (.slot 4)) (.int 1))]) (.int 65537))),
   (.mut .append 2 (.bin .mod (.bi .int [(.slot 3)]) (.int 997)))]) (l.map fun (k : Nat) => PV.int k)
      [.fz (.scr ns), .fz (.int m), .ow (.lst (ds.map .int)), .fz (.int x), z4, z5, z6, z7] S = .ok (.nx, [.fz (.scr ns), .fz (.int m), .ow (.lst (ds'.map .int)), .fz (.int x'), z4', z5, z6, z7], S) ∧ ds'.length ≤ ds.length + l.length
  | [], ds, x, z4, _ => ⟨ds, x, z4, by rw [List.map_nil, for_nil], Nat.le_refl _⟩
  | k :: l, ds, x, z4, h => by
    rw [List.length_cons] at h
    rw [List.map_cons, for_cons]
    have hb (a : Int) : (big64 a || big64 16807) = true := by rw [show big64 16807 = true from by decide, Bool.or_true]
    obtain ⟨ds2, x2, y4, e2, l3⟩ := draws_end cf ns m S z5 z6 z7 l (ds ++ [(x * 16807 + k + 1) % 65537 % 997]) ((x * 16807 + k + 1) % 65537) (.fz (.int k)) (by rw [List.length_append, List.length_singleton]; omega)
    refine ⟨ds2, x2, y4, ?_, by rw [List.length_append, List.length_singleton] at l3; rw [List.length_cons]; omega⟩
    rw [← e2]
    simp [hb, show ds.length < line from by unfold line; omega]
theorem cut_len {α : Type} (l : List α) (hi : Option Int) : (cut l none hi).length ≤ l.length := by
  unfold cut
  rw [List.length_drop, List.length_take]
  omega
theorem cut_map {α β : Type} (g : α → β) (l : List α) (lo hi : Option Int) : cut (l.map g) lo hi = (cut l lo hi).map g := by
  unfold cut
  rw [List.length_map, List.map_drop, List.map_take]
theorem draws_ok (h : tab[f]? = some cDraws) {k : Nat} {ns : List Int} (hns : ns.length ≤ 63) {m : Int} (h0 : 0 ≤ m) (hm : m ≤ 4000) :
    ∃ ds : List Int, callAt tab gl W (k + 1) f [.scr ns, .int m] [] = .ok (.lst (ds.map .int), []) ∧ ds.length ≤ 16777216 := by
  rw [cDraws] at h
  rw [call_lit h]
  obtain ⟨ds1, x1, y4, y5, y6, y7, e1, l1⟩ := draws_out (gl := gl) (W := W) (callAt tab gl W k) ns m [] (List.range ns.length) [] 7 .un .un .un .un (fun j hj => List.mem_range.1 hj) (by omega) (by rw [List.length_range, List.length_nil]; omega)
  rw [List.length_range, List.length_nil] at l1
  obtain ⟨ds2, x2, w4, e2, l2⟩ := draws_end (gl := gl) (W := W) (callAt tab gl W k) ns m [] y5 y6 y7 (List.range m.toNat) ds1 x1 y4 (by rw [List.length_range]; omega)
  rw [List.length_range] at l2
  refine ⟨cut ds2 none (some m), ?_, Nat.le_trans (cut_len _ _) (by omega)⟩
  have r1 : rangeE [.int (ns.length : Int)] = .ok ((List.range ns.length).map fun (k : Nat) => PV.int k) := by
    rw [rg_1, rangeL_up, Int.toNat_natCast, small_of (by omega) (by omega), decide_eq_true (by omega : (ns.length : Int) ≤ 16777216)]; simp only [Bool.and_self, need_true, ok_bind]
  have r2 : rangeE [.int m] = .ok ((List.range m.toNat).map fun (k : Nat) => PV.int k) := by
    rw [rg_1, rangeL_up, small_of h0 (by omega), decide_eq_true (by omega : m ≤ 16777216)]; simp only [Bool.and_self, need_true, ok_bind]
  have s1 : small62 m = true := small_of h0 (by omega)
  rw [List.map_nil] at e1
  simp [-rg_1, r1, r2, s1, cut_map, e1, e2, List.replicate]
  exact emp_fin (by rw [PV.cb]; exact cbL_int 0 _) _
end
end Ev
end

section
/-! tools for the plain maths, three: trees of texts and numbers, order, dicts -/
set_option autoImplicit false
set_option linter.unusedSimpArgs false
namespace Ev
open Res PV
theorem each_inv {f : PV → Store → Res (List PV × Store)} (I : List PV → List PV → Store → Prop)
    (hs : ∀ x r acc S, I (x :: r) acc S → ∃ ys S', f x S = .ok (ys, S') ∧ I r (acc ++ ys) S') :
    ∀ l acc S, I l acc S → ∃ ys S', eachL f l S = .ok (ys, S') ∧ I [] (acc ++ ys) S'
  | [], acc, S, h => ⟨[], S, rfl, by rwa [List.append_nil]⟩
  | x :: r, acc, S, h => by
    obtain ⟨ys, S1, h1, h2⟩ := hs x r acc S h
    obtain ⟨zs, S2, h3, h4⟩ := each_inv I hs r _ S1 h2
    exact ⟨ys ++ zs, S2, by rw [each_cons, h1, ok_bind, h3, ok_bind], by rwa [← List.append_assoc]⟩
theorem each_w {f : PV → Store → Res (List PV × Store)} {P : PV → Prop} (h : ∀ x S, Wst S → ∃ v S', f x S = .ok ([v], S') ∧ P v ∧ Wst S') :
    ∀ l S, Wst S → ∃ vs S', eachL f l S = .ok (vs, S') ∧ vs.length = l.length ∧ (∀ v ∈ vs, P v) ∧ Wst S'
  | [], S, hS => ⟨[], S, rfl, rfl, fun _ hv => (nomatch hv), hS⟩
  | x :: l, S, hS => by
    obtain ⟨v, S1, h1, h2, h3⟩ := h x S hS
    obtain ⟨vs, S2, h4, h5, h6, h7⟩ := each_w h l S1 h3
    refine ⟨v :: vs, S2, by rw [each_cons, h1, ok_bind, h4, ok_bind]; rfl, by rw [List.length_cons, List.length_cons, h5], fun u hu => ?_, h7⟩
    rcases List.mem_cons.1 hu with rfl | hu
    · exact h2
    · exact h6 u hu
theorem rangeL_len (n : Int) : (rangeL 0 n 1).length = n.toNat := by rw [rangeL_up, List.length_map, List.length_range]
theorem fits_le {α : Type} {l : List α} (h : l.length ≤ 16777216) : fitsL l = true := decide_eq_true h
namespace PV
mutual
/-- made of texts and numbers by tuples alone: == is sameness -/
def tt : PV → Bool
  | non => true
  | int _ => true
  | str _ => true
  | tup l => ttL l
  | _ => false
def ttL : List PV → Bool
  | [] => true
  | x :: xs => tt x && ttL xs
end
end PV
theorem ttL_iff {l : List PV} : ttL l = true ↔ ∀ x ∈ l, x.tt = true := by
  induction l with
  | nil => simp [ttL]
  | cons x l ih => simp [ttL, ih]
mutual
theorem tt_plain : ∀ v : PV, v.tt = true → v.plain = true
  | .non, _ => rfl
  | .int _, _ => rfl
  | .str _, _ => rfl
  | .tup l, h => by rw [tt] at h; rw [plain]; exact ttL_plain l h
theorem ttL_plain : ∀ l : List PV, ttL l = true → plainL l = true
  | [], _ => rfl
  | x :: l, h => by
    rw [ttL, Bool.and_eq_true] at h
    rw [plainL, tt_plain x h.1, ttL_plain l h.2]; rfl
end
mutual
theorem tt_imm : ∀ v : PV, v.tt = true → v.imm = true
  | .non, _ => rfl
  | .int _, _ => rfl
  | .str _, _ => rfl
  | .tup l, h => by rw [tt] at h; rw [imm]; exact ttL_imm l h
theorem ttL_imm : ∀ l : List PV, ttL l = true → immL l = true
  | [], _ => rfl
  | x :: l, h => by
    rw [ttL, Bool.and_eq_true] at h
    rw [immL, tt_imm x h.1, ttL_imm l h.2]; rfl
end
mutual
theorem tt_key : ∀ v : PV, v.tt = true → v.keyable = true
  | .non, _ => rfl
  | .int _, _ => rfl
  | .str _, _ => rfl
  | .tup l, h => by rw [tt] at h; rw [keyable]; exact ttL_key l h
theorem ttL_key : ∀ l : List PV, ttL l = true → keyableL l = true
  | [], _ => rfl
  | x :: l, h => by
    rw [ttL, Bool.and_eq_true] at h
    rw [keyableL, tt_key x h.1, ttL_key l h.2]; rfl
end
mutual
theorem tt_cb (n : Nat) : ∀ v : PV, v.tt = true → v.cb n = true
  | .non, _ => rfl
  | .int _, _ => rfl
  | .str _, _ => rfl
  | .tup l, h => by rw [tt] at h; rw [PV.cb]; exact ttL_cb n l h
theorem ttL_cb (n : Nat) : ∀ l : List PV, ttL l = true → cbL n l = true
  | [], _ => rfl
  | x :: l, h => by
    rw [ttL, Bool.and_eq_true] at h
    rw [cbL, tt_cb n x h.1, ttL_cb n l h.2]; rfl
end
mutual
theorem tt_eqv : ∀ v w : PV, v.tt = true → w.tt = true → (v.eqv w = true ↔ v = w)
  | .non, w, _, _ => by cases w <;> simp [eqv]
  | .int i, w, _, hw => by cases w <;> simp_all [eqv, tt]
  | .str i, w, _, hw => by cases w <;> simp_all [eqv, tt]
  | .tup l, w, h, hw => by
    cases w with
    | tup m =>
      rw [tt] at h hw
      rw [eqv, ttL_eqv l m h hw, PV.tup.injEq]
    | _ => simp_all [eqv, tt]
theorem ttL_eqv : ∀ v w : List PV, ttL v = true → ttL w = true → (eqvL v w = true ↔ v = w)
  | [], [], _, _ => by simp [eqvL]
  | [], _ :: _, _, _ => by simp [eqvL]
  | _ :: _, [], _, _ => by simp [eqvL]
  | x :: l, y :: m, h, hw => by
    rw [ttL, Bool.and_eq_true] at h hw
    rw [eqvL, Bool.and_eq_true, tt_eqv x y h.1 hw.1, ttL_eqv l m h.2 hw.2, List.cons.injEq]
end
theorem tt_refl {v : PV} (h : v.tt = true) : v.eqv v = true := (tt_eqv v v h h).2 rfl
theorem tt_ne {v w : PV} (h : v.tt = true) (h2 : w.tt = true) (hn : v ≠ w) : v.eqv w = false := by
  cases hh : v.eqv w with
  | false => rfl
  | true => exact absurd ((tt_eqv v w h h2).1 hh) hn
theorem okD_of {v : PV} (h : v.tt = true) (hd : v.depth ≤ 60) : v.okD = true := by
  rw [okD, tt_plain v h, decide_eq_true hd]; rfl
theorem isKey_of {v : PV} (h : v.tt = true) (hd : v.depth ≤ 8) : v.isKey = true := by
  rw [isKey, tt_key v h, decide_eq_true hd]; rfl
theorem depthL_le {n : Nat} : ∀ {l : List PV}, (∀ x ∈ l, x.depth ≤ n) → depthL l ≤ n
  | [], _ => Nat.zero_le _
  | x :: l, h => by
    rw [depthL]
    exact Nat.max_le.2 ⟨h x List.mem_cons_self, depthL_le fun y hy => h y (List.mem_cons_of_mem _ hy)⟩
theorem eq_tt {a b : PV} (ha : a.tt = true) (hb : b.tt = true) (da : a.depth ≤ 60) (db : b.depth ≤ 60) : eqE a b = .ok (a.eqv b) := eq_okD (okD_of ha da) (okD_of hb db)
/-! ### order -/
theorem insB_perm (lt : PV → PV → Bool) (x : PV) : ∀ l, (insB lt x l).Perm (x :: l)
  | [] => List.Perm.refl _
  | y :: l => by
    rw [insB]
    split
    · exact List.Perm.refl _
    · exact ((insB_perm lt x l).cons y).trans (List.Perm.swap x y l)
theorem foldl_ins (lt : PV → PV → Bool) : ∀ (l acc : List PV), (l.foldl (fun acc x => insB lt x acc) acc).Perm (l ++ acc)
  | [], _ => List.Perm.refl _
  | x :: l, acc => (foldl_ins lt l (insB lt x acc)).trans (((insB_perm lt x acc).append_left l).trans List.perm_middle)
theorem isort_perm (lt : PV → PV → Bool) (l : List PV) : (isort lt l).Perm l := by
  have := foldl_ins lt l []
  rwa [List.append_nil] at this
theorem insB_filter {lt : PV → PV → Bool} {x : PV} {p q : PV → Bool} : ∀ {U : List PV}, U.Pairwise (fun a b => lt a b = true ∧ lt b a = false) → U.Nodup → x ∈ U → p x = false →
    (∀ y ∈ U, q y = true ↔ (p y = true ∨ y = x)) → insB lt x (U.filter p) = U.filter q
  | [], _, _, hx, _, _ => nomatch hx
  | y :: U, hU, hn, hx, hp, hq => by
    rw [List.pairwise_cons] at hU
    rw [List.nodup_cons] at hn
    by_cases hxy : y = x
    · subst hxy
      have hpq : U.filter p = U.filter q := List.filter_congr fun z hz => by
        have h1 := hq z (List.mem_cons_of_mem _ hz)
        have h2 : z ≠ y := fun h => hn.1 (h ▸ hz)
        cases hpz : p z <;> cases hqz : q z <;> simp_all
      rw [List.filter_cons_of_neg (by rw [hp]; exact Bool.false_ne_true), List.filter_cons_of_pos ((hq y List.mem_cons_self).2 (Or.inr rfl)), ← hpq]
      cases hf : U.filter p with
      | nil => rfl
      | cons z F =>
        have hz : z ∈ U.filter p := by rw [hf]; exact List.mem_cons_self
        rw [insB, if_pos (hU.1 z (List.mem_filter.1 hz).1).1]
    · have hx1 : x ∈ U := by
        rcases List.mem_cons.1 hx with h | h
        · exact absurd h.symm hxy
        · exact h
      have ih := insB_filter (lt := lt) hU.2 hn.2 hx1 hp fun z hz => hq z (List.mem_cons_of_mem _ hz)
      have h1 := hq y List.mem_cons_self
      cases hpy : p y with
      | true =>
        rw [List.filter_cons_of_pos hpy, List.filter_cons_of_pos (h1.2 (Or.inl hpy)), insB, if_neg (by rw [(hU.1 x hx1).2]; exact Bool.false_ne_true), ih]
      | false =>
        have hqy : ¬ q y = true := fun h => (h1.1 h).elim (fun h => by rw [hpy] at h; cases h) hxy
        rw [List.filter_cons_of_neg (by rw [hpy]; exact Bool.false_ne_true), List.filter_cons_of_neg hqy, ih]
theorem foldl_filter {lt : PV → PV → Bool} {U : List PV} (hU : U.Pairwise (fun a b => lt a b = true ∧ lt b a = false)) (hn : U.Nodup) : ∀ (m : List PV) (p q : PV → Bool), (∀ x ∈ m, x ∈ U ∧ p x = false) → m.Nodup →
    (∀ y ∈ U, q y = true ↔ (p y = true ∨ y ∈ m)) → m.foldl (fun acc x => insB lt x acc) (U.filter p) = U.filter q
  | [], p, q, _, _, hq => List.filter_congr fun z hz => by
      have h1 := hq z hz
      cases hpz : p z <;> cases hqz : q z <;> simp_all
  | x :: m, p, q, hm, hd, hq => by
    rw [List.nodup_cons] at hd
    have hx := hm x List.mem_cons_self
    rw [List.foldl_cons, insB_filter (q := fun y => p y || @decide (y = x) (Classical.propDecidable _)) hU hn hx.1 hx.2 fun y _ => by simp]
    refine foldl_filter hU hn m _ q (fun y hy => ⟨(hm y (List.mem_cons_of_mem _ hy)).1, ?_⟩) hd.2 fun y hy => ?_
    · have h2 : y ≠ x := fun h => hd.1 (h ▸ hy)
      simp [(hm y (List.mem_cons_of_mem _ hy)).2, h2]
    · rw [hq y hy]; simp [or_assoc]
/-- what is sorted are places of a sorted list: these of it -/
theorem isort_filter {lt : PV → PV → Bool} {U : List PV} (hU : U.Pairwise (fun a b => lt a b = true ∧ lt b a = false)) (hn : U.Nodup) {m : List PV} {q : PV → Bool} (hm : ∀ x ∈ m, x ∈ U) (hd : m.Nodup)
    (hq : ∀ y ∈ U, q y = true ↔ y ∈ m) : isort lt m = U.filter q := by
  have := foldl_filter hU hn m (fun _ => false) q (fun x hx => ⟨hm x hx, rfl⟩) hd fun y hy => by simp [hq y hy]
  rwa [List.filter_eq_nil_iff.2 (fun _ _ => Bool.false_ne_true)] at this
theorem mem_dedup {l : List PV} (h : ∀ x ∈ l, x.tt = true) : ∀ y, y ∈ dedup l ↔ y ∈ l := by
  induction l with
  | nil => intro y; rw [dedup]
  | cons x l ih =>
    intro y
    have hx := h x List.mem_cons_self
    have ih := ih fun z hz => h z (List.mem_cons_of_mem _ hz)
    rw [dedup, List.mem_cons, List.mem_filter, List.mem_cons, ih]
    constructor
    · rintro (h | h)
      · exact Or.inl h
      · exact Or.inr h.1
    · rintro (h1 | h1)
      · exact Or.inl h1
      · by_cases hxy : y = x
        · exact Or.inl hxy
        · exact Or.inr ⟨h1, by rw [tt_ne hx (h y (List.mem_cons_of_mem _ h1)) fun hh => hxy hh.symm]; rfl⟩
theorem nodup_dedup {l : List PV} (h : ∀ x ∈ l, x.tt = true) : (dedup l).Nodup := by
  induction l with
  | nil => rw [dedup]; exact List.nodup_nil
  | cons x l ih =>
    have ih := ih fun z hz => h z (List.mem_cons_of_mem _ hz)
    rw [dedup, List.nodup_cons]
    refine ⟨fun hh => ?_, ih.filter _⟩
    have := (List.mem_filter.1 hh).2
    rw [tt_refl (h x List.mem_cons_self)] at this
    cases this
/-- the law's four words -/
def W4 : List PV := [.str [97], .str [98], .str [99, 100], .str [101]]
theorem W4_lt : W4.Pairwise (fun a b => ltb a b = true ∧ ltb b a = false) := by
  decide
theorem W4_nodup : W4.Nodup := by
  simp [W4, List.nodup_cons]
theorem W4_str {x : PV} (h : x ∈ W4) : ∃ s, x = .str s := by
  simp only [W4, List.mem_cons, List.not_mem_nil, or_false] at h
  rcases h with rfl | rfl | rfl | rfl <;> exact ⟨_, rfl⟩
theorem alikeAll_str {l : List PV} (h : ∀ x ∈ l, ∃ s, x = .str s) : alikeAll l = true := by
  refine List.all_eq_true.2 fun x hx => ?_
  obtain ⟨s, rfl⟩ := h x hx
  rw [isNon_str, Bool.not_false, Bool.true_and]
  refine List.all_eq_true.2 fun y hy => ?_
  obtain ⟨t, rfl⟩ := h y hy
  rfl
theorem sortable_str {l : List PV} (h : ∀ x ∈ l, ∃ s, x = .str s) : sortable l = true := by
  rw [sortable, minable, alikeAll_str h, Bool.true_and, Bool.and_eq_true]
  exact ⟨List.all_eq_true.2 fun x hx => by obtain ⟨s, rfl⟩ := h x hx; rfl, List.all_eq_true.2 fun x hx => by obtain ⟨s, rfl⟩ := h x hx; rfl⟩
/-- set(words), sorted -/
theorem sset_words {l : List PV} (h : ∀ x ∈ l, x ∈ W4) (hl : l.length < 4000) : ssetE (.lst l) = .ok (.lst (W4.filter fun y => l.any fun x => x.eqv y)) := by
  have ht : ∀ x ∈ l, x.tt = true := fun x hx => by obtain ⟨s, rfl⟩ := W4_str (h x hx); rfl
  have hs : settable l = true := by
    rw [settable, decide_eq_true hl, Bool.and_true, Bool.or_eq_true]
    exact Or.inl <| List.all_eq_true.2 fun x hx => by obtain ⟨s, rfl⟩ := W4_str (h x hx); rfl
  have hm := mem_dedup ht
  have hq : isort ltb (dedup l) = W4.filter fun y => l.any fun x => x.eqv y := isort_filter W4_lt W4_nodup (fun x hx => h x ((hm x).1 hx)) (nodup_dedup ht) fun y hy => by
    obtain ⟨s, rfl⟩ := W4_str hy
    rw [List.any_eq_true, hm]
    constructor
    · rintro ⟨x, h1, h2⟩
      rwa [(tt_eqv x _ (ht x h1) rfl).1 h2] at h1
    · exact fun h1 => ⟨_, h1, tt_refl rfl⟩
  have hlen : (dedup l).length ≤ l.length := by
    clear hs hm hq ht hl h
    induction l with
    | nil => rw [dedup]; exact Nat.le_refl _
    | cons x l ih =>
      rw [dedup, List.length_cons, List.length_cons]
      exact Nat.succ_le_succ (Nat.le_trans (List.length_filter_le ..) ih)
  rw [ssetE, seqOf, ok_bind, hs, need_true, ok_bind, sortedE, hq, sortable_str fun x hx => W4_str (h x ((hm x).1 hx)), Bool.and_true, fitsL, decide_eq_true (show (dedup l).length ≤ line by unfold line; omega)]
  rfl
/-! ### dicts -/
theorem dHas_false {l : List (PV × PV)} {k : PV} (hl : ∀ kv ∈ l, kv.1.tt = true) (hk : k.tt = true) (h : k ∉ l.map (·.1)) : dHas l k = false := by
  refine Bool.eq_false_iff.2 fun hh => ?_
  obtain ⟨kv, h1, h2⟩ := List.any_eq_true.1 hh
  exact h (List.mem_map.2 ⟨kv, h1, (tt_eqv _ _ (hl kv h1) hk).1 h2⟩)
theorem dPut_new {l : List (PV × PV)} {k v : PV} (hl : ∀ kv ∈ l, kv.1.tt = true) (hk : k.tt = true) (h : k ∉ l.map (·.1)) : dPut l k v = l ++ [(k, v)] := by
  rw [dPut, dHas_false hl hk h]; rfl
theorem dUpd_fresh : ∀ {m l : List (PV × PV)}, (∀ kv ∈ l ++ m, kv.1.tt = true) → ((l ++ m).map (·.1)).Nodup → dUpd l m = l ++ m
  | [], l, _, _ => by rw [List.append_nil]; rfl
  | kv :: m, l, h, hd => by
    have h1 : kv.1 ∉ l.map (·.1) := fun hh => by
      rw [List.map_append, List.nodup_append] at hd
      exact hd.2.2 _ hh _ (by rw [List.map_cons]; exact List.mem_cons_self) rfl
    rw [dUpd, List.foldl_cons, dPut_new (fun x hx => h x (List.mem_append_left _ hx)) (h kv (List.mem_append_right _ List.mem_cons_self)) h1]
    have := dUpd_fresh (m := m) (l := l ++ [kv]) (by rwa [List.append_assoc]) (by rwa [List.append_assoc])
    rw [List.append_assoc] at this
    exact this
theorem pairsOf_map {ps : List (PV × PV)} (h : ∀ kv ∈ ps, kv.1.isKey = true) : pairsOf (ps.map fun kv => .tup [kv.1, kv.2]) = .ok ps := by
  induction ps with
  | nil => rfl
  | cons x l ih =>
    rw [List.map_cons, pairsOf, pairOf, need_of (h x List.mem_cons_self), ok_bind, ok_bind, ih fun y hy => h y (List.mem_cons_of_mem _ hy), ok_bind]
theorem dGet_none {l : List (PV × PV)} {k : PV} (hl : ∀ kv ∈ l, kv.1.tt = true) (hk : k.tt = true) (h : k ∉ l.map (·.1)) : dGet l k = none := by
  have : (l.find? fun kv => kv.1.eqv k) = none := List.find?_eq_none.2 fun kv h1 h2 => h (List.mem_map.2 ⟨kv, h1, (tt_eqv _ _ (hl kv h1) hk).1 h2⟩)
  rw [dGet, this]; rfl
theorem dGet_some {l : List (PV × PV)} {k : PV} (hl : ∀ kv ∈ l, kv.1.tt = true) (hk : k.tt = true) (h : k ∈ l.map (·.1)) : ∃ v, dGet l k = some v ∧ (k, v) ∈ l := by
  obtain ⟨kv, h1, h2⟩ := List.mem_map.1 h
  cases hf : l.find? fun kv => kv.1.eqv k with
  | none =>
    refine absurd (List.find?_eq_none.1 hf kv h1) ?_
    rw [h2, tt_refl hk]; exact fun h => h rfl
  | some x =>
    have hx := List.find?_some hf
    have hm := List.mem_of_find?_eq_some hf
    refine ⟨x.2, by rw [dGet, hf]; rfl, ?_⟩
    rw [← (tt_eqv _ _ (hl x hm) hk).1 hx]; exact hm
theorem words_len {l : List PV} (h : ∀ x ∈ l, x ∈ W4) (hd : l.Nodup) : l.length ≤ 4 := by
  have h1 := isort_filter (q := fun y => @decide (y ∈ l) (Classical.propDecidable _)) W4_lt W4_nodup h hd fun y _ => by simp
  rw [← (isort_perm ltb l).length_eq, h1]
  exact List.length_filter_le _ _
theorem dPut_keys (l : List (PV × PV)) (k v : PV) : (dPut l k v).map (·.1) = if dHas l k then l.map (·.1) else l.map (·.1) ++ [k] := by
  rw [dPut]
  split
  · rw [List.map_map]
    exact List.map_congr_left fun kv _ => by simp only [Function.comp]; split <;> rfl
  · rw [List.map_append]; rfl
theorem dPut_nodup {l : List (PV × PV)} {k v : PV} (hk : k.tt = true) (hd : (l.map (·.1)).Nodup) : ((dPut l k v).map (·.1)).Nodup := by
  rw [dPut_keys]
  split
  · exact hd
  · rename_i h
    refine List.nodup_append.2 ⟨hd, by simp, fun a ha b hb => ?_⟩
    rw [List.mem_singleton.1 hb]
    rintro rfl
    obtain ⟨kv, h1, h2⟩ := List.mem_map.1 ha
    exact h (List.any_eq_true.2 ⟨kv, h1, by rw [h2]; exact tt_refl hk⟩)
theorem dPut_mem {l : List (PV × PV)} {k v : PV} {kv : PV × PV} (h : kv ∈ dPut l k v) : kv ∈ l ∨ (kv.2 = v ∧ (kv.1 = k ∨ kv.1 ∈ l.map (·.1))) := by
  rw [dPut] at h
  split at h
  · obtain ⟨x, h1, h2⟩ := List.mem_map.1 h
    split at h2
    · rw [← h2]
      exact Or.inr ⟨rfl, Or.inr (List.mem_map.2 ⟨x, h1, rfl⟩)⟩
    · exact Or.inl (h2 ▸ h1)
  · rcases List.mem_append.1 h with h | h
    · exact Or.inl h
    · rw [List.mem_singleton.1 h]
      exact Or.inr ⟨rfl, Or.inl rfl⟩
theorem dGet_of_mem {l : List (PV × PV)} (hl : ∀ kv ∈ l, kv.1.tt = true) (hd : (l.map (·.1)).Nodup) {kv : PV × PV} (h : kv ∈ l) : dGet l kv.1 = some kv.2 := by
  induction l with
  | nil => cases h
  | cons x l ih =>
    rw [List.map_cons, List.nodup_cons] at hd
    rcases List.mem_cons.1 h with rfl | h1
    · have ht := tt_refl (hl _ List.mem_cons_self)
      rw [dGet, List.find?_cons, ht]; rfl
    · have hne : x.1 ≠ kv.1 := fun e => hd.1 (List.mem_map.2 ⟨kv, h1, e.symm⟩)
      rw [dGet, List.find?_cons, tt_ne (hl x List.mem_cons_self) (hl kv h) hne]
      exact ih (fun y hy => hl y (List.mem_cons_of_mem _ hy)) hd.2 h1
theorem fm_filter {α : Type} (p : α → Bool) : ∀ l : List α, (l.flatMap fun x => if p x = true then [x] else []) = l.filter p
  | [] => rfl
  | x :: l => by
    rw [List.flatMap_cons, fm_filter p l, List.filter_cons]
    split <;> rfl
theorem fm_map {α β : Type} (f : α → β) : ∀ l : List α, (l.flatMap fun x => [f x]) = l.map f
  | [] => rfl
  | x :: l => by rw [List.flatMap_cons, fm_map f l]; rfl
end Ev
end

section
/-! tools for the plain maths, four: values of plain types, told by `e`; sorted lists; walks and loops over them -/
set_option autoImplicit false
set_option linter.unusedSimpArgs false
set_option linter.unusedSectionVars false
namespace Ev
open Res PV
/-- values of a plain type: == is sameness, < is an order -/
class Enc (α : Type) [DecidableEq α] where
  e : α → PV
  lt : α → α → Bool
  dep : Nat
  mix : Bool
  eqv_e : ∀ a b, (e a).eqv (e b) = decide (a = b)
  ltb_e : ∀ a b, (e a).ltb (e b) = lt a b
  alike_e : ∀ a b, (e a).alike (e b) = true
  non_e : ∀ a, (e a).isNon = false
  tt_e : ∀ a, (e a).tt = true
  dep_e : ∀ a, (e a).depth ≤ dep
  mix_e : ∀ a, (e a).isMix = mix
  irr : ∀ a, lt a a = false
  tr : ∀ a b c, lt a b = true → lt b c = true → lt a c = true
  tot : ∀ a b, a ≠ b → lt a b = true ∨ lt b a = true
/-- .. that may be sorted -/
class EncS (α : Type) [DecidableEq α] [Enc α] : Prop where
  noTup_e : ∀ a : α, isNoTup (Enc.e a) = false
  tup_e : Enc.mix α = false → ∀ a : α, ∃ x l, Enc.e a = .tup (x :: l)
open Enc (e)
/-- a text -/
structure T where
  s : List Nat
  deriving DecidableEq
theorem ltN_irr : ∀ a, ltN a a = false
  | [] => rfl
  | x :: xs => by rw [ltN, if_pos rfl, ltN_irr xs]
theorem ltN_tr : ∀ a b c, ltN a b = true → ltN b c = true → ltN a c = true
  | [], [], _, h, _ => by cases h
  | [], _ :: _, [], _, h => by cases h
  | [], _ :: _, _ :: _, _, _ => rfl
  | _ :: _, [], _, h, _ => by cases h
  | _ :: _, _ :: _, [], _, h => by cases h
  | x :: xs, y :: ys, z :: zs, h1, h2 => by
    rw [ltN] at h1 h2 ⊢
    by_cases e1 : x = y
    · subst e1
      rw [if_pos rfl] at h1
      by_cases e2 : x = z
      · rw [if_pos e2] at h2 ⊢
        exact ltN_tr xs ys zs h1 h2
      · rw [if_neg e2] at h2 ⊢
        exact h2
    · rw [if_neg e1] at h1
      have h1 := of_decide_eq_true h1
      by_cases e2 : y = z
      · subst e2
        rw [if_neg e1]; exact decide_eq_true h1
      · rw [if_neg e2] at h2
        have h2 := of_decide_eq_true h2
        rw [if_neg (by omega)]
        exact decide_eq_true (by omega)
theorem ltN_tot : ∀ a b : List Nat, a ≠ b → ltN a b = true ∨ ltN b a = true
  | [], [], h => absurd rfl h
  | [], _ :: _, _ => Or.inl rfl
  | _ :: _, [], _ => Or.inr rfl
  | x :: xs, y :: ys, h => by
    rw [ltN, ltN]
    by_cases e1 : x = y
    · subst e1
      rw [if_pos rfl, if_pos rfl]
      exact ltN_tot xs ys fun hh => h (by rw [hh])
    · rw [if_neg e1, if_neg fun hh => e1 hh.symm]
      rcases Nat.lt_or_gt_of_ne e1 with h | h
      · exact Or.inl (decide_eq_true h)
      · exact Or.inr (decide_eq_true h)
instance : Enc Int where
  e := .int
  lt a b := decide (a < b)
  dep := 0
  mix := true
  eqv_e a b := by rw [eqv]; exact Bool.eq_iff_iff.2 (by simp)
  ltb_e a b := by rw [ltb]
  alike_e a b := by rw [alike]
  non_e a := rfl
  tt_e a := by rw [tt]
  dep_e a := by simp [depth]
  mix_e a := rfl
  irr a := by simp
  tr a b c h1 h2 := by simp at *; omega
  tot a b h := by simp; omega
instance : EncS Int := ⟨fun _ => rfl, fun h => by cases h⟩
instance : Enc T where
  e t := .str t.s
  lt a b := ltN a.s b.s
  dep := 0
  mix := true
  eqv_e a b := by
    rw [eqv]
    cases a; cases b
    exact Bool.eq_iff_iff.2 (by simp)
  ltb_e a b := by rw [ltb]
  alike_e a b := by rw [alike]
  non_e a := rfl
  tt_e a := by rw [tt]
  dep_e a := by simp [depth]
  mix_e a := rfl
  irr a := ltN_irr _
  tr a b c := ltN_tr _ _ _
  tot a b h := ltN_tot _ _ fun hh => h (by cases a; cases b; cases hh; rfl)
instance : EncS T := ⟨fun _ => rfl, fun h => by cases h⟩
section
variable {α β γ : Type} [DecidableEq α] [DecidableEq β] [DecidableEq γ] [Enc α] [Enc β] [Enc γ]
instance : Enc (α × β) where
  e p := .tup [e p.1, e p.2]
  lt p q := if p.1 = q.1 then Enc.lt p.2 q.2 else Enc.lt p.1 q.1
  dep := max (Enc.dep α) (Enc.dep β) + 1
  mix := false
  eqv_e a b := by
    cases a; cases b
    simp only [eqv, eqvL, Enc.eqv_e, Bool.and_true, Prod.mk.injEq, Bool.decide_and]
  ltb_e a b := by
    simp only [ltb, ltbL, Enc.eqv_e, Enc.ltb_e, decide_eq_true_eq]
    split
    · split
      · rename_i h; rw [h, Enc.irr]
      · rfl
    · rfl
  alike_e a b := by simp only [alike, alikeL, Enc.alike_e, Bool.and_self]
  non_e a := rfl
  tt_e a := by simp only [tt, ttL, Enc.tt_e, Bool.and_self]
  dep_e a := by
    simp only [depth, depthL]
    have h1 := Enc.dep_e a.1
    have h2 := Enc.dep_e a.2
    omega
  mix_e a := rfl
  irr a := by simp only [if_true, Enc.irr]
  tr a b c h1 h2 := by
    by_cases e1 : a.1 = b.1
    · rw [if_pos e1] at h1
      by_cases e2 : b.1 = c.1
      · rw [if_pos e2] at h2
        rw [if_pos (e1.trans e2)]
        exact Enc.tr _ _ _ h1 h2
      · rw [if_neg e2] at h2
        rw [e1, if_neg e2]; exact h2
    · rw [if_neg e1] at h1
      by_cases e2 : b.1 = c.1
      · rw [← e2, if_neg e1]; exact h1
      · rw [if_neg e2] at h2
        have h3 := Enc.tr _ _ _ h1 h2
        rw [if_neg fun h => by rw [h, Enc.irr] at h3; cases h3]
        exact h3
  tot a b h := by
    by_cases e1 : a.1 = b.1
    · rw [if_pos e1, if_pos e1.symm]
      exact Enc.tot _ _ fun hh => h (Prod.ext e1 hh)
    · rw [if_neg e1, if_neg fun hh => e1 hh.symm]
      exact Enc.tot _ _ e1
instance : EncS (α × β) := ⟨fun _ => rfl, fun _ _ => ⟨_, _, rfl⟩⟩
/-- three together -/
structure Tr (α β γ : Type) where
  a : α
  b : β
  c : γ
  deriving DecidableEq
instance : Enc (Tr α β γ) where
  e p := .tup [e p.a, e p.b, e p.c]
  lt p q := if p.a = q.a then (if p.b = q.b then Enc.lt p.c q.c else Enc.lt p.b q.b) else Enc.lt p.a q.a
  dep := max (Enc.dep α) (max (Enc.dep β) (Enc.dep γ)) + 1
  mix := false
  eqv_e a b := by
    cases a; cases b
    simp only [eqv, eqvL, Enc.eqv_e, Bool.and_true, Tr.mk.injEq, Bool.decide_and]
  ltb_e a b := by
    simp only [ltb, ltbL, Enc.eqv_e, Enc.ltb_e, decide_eq_true_eq]
    split
    · split
      · split
        · rename_i h; rw [h, Enc.irr]
        · rfl
      · rfl
    · rfl
  alike_e a b := by simp only [alike, alikeL, Enc.alike_e, Bool.and_self]
  non_e a := rfl
  tt_e a := by simp only [tt, ttL, Enc.tt_e, Bool.and_self]
  dep_e a := by
    simp only [depth, depthL]
    have h1 := Enc.dep_e a.a
    have h2 := Enc.dep_e a.b
    have h3 := Enc.dep_e a.c
    omega
  mix_e a := rfl
  irr a := by simp only [if_true, Enc.irr]
  tr a b c h1 h2 := by
    have := Enc.tr (α := α × β × γ) (a.a, a.b, a.c) (b.a, b.b, b.c) (c.a, c.b, c.c) h1 h2
    exact this
  tot a b h := by
    have := Enc.tot (α := α × β × γ) (a.a, a.b, a.c) (b.a, b.b, b.c) (fun hh => h (by cases a; cases b; cases hh; rfl))
    exact this
instance : EncS (Tr α β γ) := ⟨fun _ => rfl, fun _ _ => ⟨_, _, rfl⟩⟩
/-- a tuple of any length -/
structure Tp (α : Type) where
  l : List α
  deriving DecidableEq
def ltL : List α → List α → Bool
  | [], [] => false
  | [], _ :: _ => true
  | _ :: _, [] => false
  | x :: xs, y :: ys => if x = y then ltL xs ys else Enc.lt x y
theorem ltL_irr : ∀ a : List α, ltL a a = false
  | [] => rfl
  | x :: xs => by rw [ltL, if_pos rfl, ltL_irr xs]
theorem ltL_tr : ∀ a b c : List α, ltL a b = true → ltL b c = true → ltL a c = true
  | [], [], _, h, _ => by cases h
  | [], _ :: _, [], _, h => by cases h
  | [], _ :: _, _ :: _, _, _ => rfl
  | _ :: _, [], _, h, _ => by cases h
  | _ :: _, _ :: _, [], _, h => by cases h
  | x :: xs, y :: ys, z :: zs, h1, h2 => by
    rw [ltL] at h1 h2 ⊢
    by_cases e1 : x = y
    · subst e1
      rw [if_pos rfl] at h1
      by_cases e2 : x = z
      · rw [if_pos e2] at h2 ⊢
        exact ltL_tr xs ys zs h1 h2
      · rw [if_neg e2] at h2 ⊢
        exact h2
    · rw [if_neg e1] at h1
      by_cases e2 : y = z
      · subst e2
        rw [if_neg e1]; exact h1
      · rw [if_neg e2] at h2
        have h3 := Enc.tr _ _ _ h1 h2
        rw [if_neg fun h => by rw [h, Enc.irr] at h3; cases h3]
        exact h3
theorem ltL_tot : ∀ a b : List α, a ≠ b → ltL a b = true ∨ ltL b a = true
  | [], [], h => absurd rfl h
  | [], _ :: _, _ => Or.inl rfl
  | _ :: _, [], _ => Or.inr rfl
  | x :: xs, y :: ys, h => by
    rw [ltL, ltL]
    by_cases e1 : x = y
    · subst e1
      rw [if_pos rfl, if_pos rfl]
      exact ltL_tot xs ys fun hh => h (by rw [hh])
    · rw [if_neg e1, if_neg fun hh => e1 hh.symm]
      exact Enc.tot _ _ e1
theorem eqvL_e : ∀ a b : List α, eqvL (a.map e) (b.map e) = decide (a = b)
  | [], [] => rfl
  | [], _ :: _ => rfl
  | _ :: _, [] => rfl
  | x :: xs, y :: ys => by
    rw [List.map_cons, List.map_cons, eqvL, Enc.eqv_e, eqvL_e xs ys]
    simp only [List.cons.injEq, Bool.decide_and]
theorem ltbL_e : ∀ a b : List α, ltbL (a.map e) (b.map e) = ltL a b
  | [], [] => rfl
  | [], _ :: _ => rfl
  | _ :: _, [] => rfl
  | x :: xs, y :: ys => by
    rw [List.map_cons, List.map_cons, ltbL, Enc.eqv_e, ltbL_e xs ys, ltL, Enc.ltb_e]
    simp only [decide_eq_true_eq]
theorem alikeL_e : ∀ a b : List α, alikeL (a.map e) (b.map e) = true
  | [], _ => by cases ‹List α› <;> rfl
  | _ :: _, [] => rfl
  | x :: xs, y :: ys => by rw [List.map_cons, List.map_cons, alikeL, Enc.alike_e, alikeL_e xs ys]; rfl
theorem ttL_e (l : List α) : ttL (l.map e) = true := ttL_iff.2 fun x hx => by
  obtain ⟨a, _, rfl⟩ := List.mem_map.1 hx
  exact Enc.tt_e a
theorem depthL_e (l : List α) : depthL (l.map e) ≤ Enc.dep α := depthL_le fun x hx => by
  obtain ⟨a, _, rfl⟩ := List.mem_map.1 hx
  exact Enc.dep_e a
/-- () may be among them: these are not sorted -/
instance : Enc (Tp α) where
  e t := .tup (t.l.map e)
  lt a b := ltL a.l b.l
  dep := Enc.dep α + 1
  mix := false
  eqv_e a b := by
    rw [eqv, eqvL_e]
    cases a; cases b
    simp only [Tp.mk.injEq]
  ltb_e a b := by rw [ltb, ltbL_e]
  alike_e a b := by rw [alike, alikeL_e]
  non_e a := rfl
  tt_e a := by rw [tt, ttL_e]
  dep_e a := by rw [depth]; exact Nat.succ_le_succ (depthL_e _)
  mix_e a := rfl
  irr a := ltL_irr _
  tr a b c := ltL_tr _ _ _
  tot a b h := ltL_tot _ _ fun hh => h (by cases a; cases b; cases hh; rfl)
/-! ### as booleans -/
variable {a b : α}
@[simp] theorem imm_e (a : α) : (e a).imm = true := tt_imm _ (Enc.tt_e a)
@[simp] theorem plain_e (a : α) : (e a).plain = true := tt_plain _ (Enc.tt_e a)
@[simp] theorem cb_e (n : Nat) (a : α) : (e a).cb n = true := tt_cb n _ (Enc.tt_e a)
@[simp] theorem keyable_e (a : α) : (e a).keyable = true := tt_key _ (Enc.tt_e a)
@[simp] theorem immL_e (l : List α) : immL (l.map e) = true := ttL_imm _ (ttL_e l)
@[simp] theorem plainL_e (l : List α) : plainL (l.map e) = true := ttL_plain _ (ttL_e l)
@[simp] theorem cbL_e (n : Nat) (l : List α) : cbL n (l.map e) = true := ttL_cb n _ (ttL_e l)
@[simp] theorem mut_e (a : α) : (e a).isMut = false := by
  have := imm_e a
  cases h : e a <;> rw [h] at this <;> first | rfl | cases this
@[simp] theorem isNon_e (a : α) : (e a).isNon = false := Enc.non_e a
theorem okD_e (h : Enc.dep α ≤ 60) (a : α) : (e a).okD = true := okD_of (Enc.tt_e a) (Nat.le_trans (Enc.dep_e a) h)
theorem isKey_e (h : Enc.dep α ≤ 8) (a : α) : (e a).isKey = true := isKey_of (Enc.tt_e a) (Nat.le_trans (Enc.dep_e a) h)
theorem eq_e (h : Enc.dep α ≤ 60) (a b : α) : eqE (e a) (e b) = .ok (decide (a = b)) := by rw [eq_okD (okD_e h a) (okD_e h b), Enc.eqv_e]
theorem lt_e (h : Enc.dep α ≤ 60) (a b : α) : ltE (e a) (e b) = .ok (Enc.lt a b) := by
  rw [ltE, okD_e h, okD_e h, Enc.alike_e, Enc.non_e, Enc.ltb_e]; rfl
theorem mem_lst (h : Enc.dep α ≤ 60) (a : α) (l : List α) : memE (e a) (.lst (l.map e)) = .ok (decide (a ∈ l)) := by
  have : (l.map e).any (fun z => z.eqv (e a)) = decide (a ∈ l) := by
    rw [List.any_map]
    simp only [Function.comp_def, Enc.eqv_e]
    refine Bool.eq_iff_iff.2 ?_
    simp
  rw [memE, plainL_e, okD_e h, decide_eq_true (Nat.le_trans (depthL_e l) h), this]; rfl
theorem mem_tup (h : Enc.dep α ≤ 60) (a : α) (l : List α) : memE (e a) (.tup (l.map e)) = .ok (decide (a ∈ l)) := by
  have : (l.map e).any (fun z => z.eqv (e a)) = decide (a ∈ l) := by
    rw [List.any_map]
    simp only [Function.comp_def, Enc.eqv_e]
    refine Bool.eq_iff_iff.2 ?_
    simp
  rw [memE, plainL_e, okD_e h, decide_eq_true (Nat.le_trans (depthL_e l) h), this]; rfl
theorem okD_lst (h : Enc.dep α ≤ 59) (l : List α) : (PV.lst (l.map e)).okD = true := by
  rw [okD, plain, plainL_e, depth, decide_eq_true (Nat.le_trans (Nat.succ_le_succ (depthL_e l)) (by omega))]; rfl
theorem okD_tup (h : Enc.dep α ≤ 59) (l : List α) : (PV.tup (l.map e)).okD = true := by
  rw [okD, plain, plainL_e, depth, decide_eq_true (Nat.le_trans (Nat.succ_le_succ (depthL_e l)) (by omega))]; rfl
theorem eq_lst (h : Enc.dep α ≤ 59) (l m : List α) : eqE (.lst (l.map e)) (.lst (m.map e)) = .ok (decide (l = m)) := by
  rw [eq_okD (okD_lst h l) (okD_lst h m), eqv, eqvL_e]
theorem eq_tup (h : Enc.dep α ≤ 59) (l m : List α) : eqE (.tup (l.map e)) (.tup (m.map e)) = .ok (decide (l = m)) := by
  rw [eq_okD (okD_tup h l) (okD_tup h m), eqv, eqvL_e]
theorem eq_lst0 (h : Enc.dep α ≤ 59) (l : List α) : eqE (.lst (l.map e)) (.lst []) = .ok (decide (l = [])) := eq_lst h l []
theorem eq_tup0 (h : Enc.dep α ≤ 59) (l : List α) : eqE (.tup (l.map e)) (.tup []) = .ok (decide (l = [])) := eq_tup h l []
/-! ### sorted lists -/
def insT (x : α) : List α → List α
  | [] => [x]
  | y :: ys => if Enc.lt x y then x :: y :: ys else y :: insT x ys
def st (l : List α) : List α := l.foldl (fun acc x => insT x acc) []
def ddT : List α → List α
  | [] => []
  | x :: xs => x :: (ddT xs).filter fun y => !decide (x = y)
def sd (l : List α) : List α := st (ddT l)
abbrev Asc (l : List α) : Prop := l.Pairwise fun a b => Enc.lt a b = true
abbrev Up (l : List α) : Prop := l.Pairwise fun a b => Enc.lt b a = false
theorem insB_e (x : α) : ∀ l : List α, insB ltb (e x) (l.map e) = (insT x l).map e
  | [] => rfl
  | y :: ys => by
    rw [List.map_cons, insB, insT, Enc.ltb_e, insB_e x ys]
    split <;> rfl
theorem isort_e (l : List α) : isort ltb (l.map e) = (st l).map e := by
  have key : ∀ (l acc : List α), (l.map e).foldl (fun acc x => insB ltb x acc) (acc.map e) = (l.foldl (fun acc x => insT x acc) acc).map e := by
    intro l
    induction l with
    | nil => intro acc; rfl
    | cons x l ih =>
      intro acc
      rw [List.map_cons, List.foldl_cons, insB_e, ih]; rfl
  exact key l []
theorem dedup_e : ∀ l : List α, dedup (l.map e) = (ddT l).map e
  | [] => by rw [List.map_nil, dedup]; rfl
  | x :: l => by
    rw [List.map_cons, dedup, ddT, dedup_e l, List.map_cons, List.filter_map]
    simp only [Function.comp_def, Enc.eqv_e]
theorem insT_perm (x : α) : ∀ l : List α, (insT x l).Perm (x :: l)
  | [] => List.Perm.refl _
  | y :: l => by
    rw [insT]
    split
    · exact List.Perm.refl _
    · exact ((insT_perm x l).cons y).trans (List.Perm.swap x y l)
theorem st_aux : ∀ (l acc : List α), (l.foldl (fun acc x => insT x acc) acc).Perm (l ++ acc)
  | [], _ => List.Perm.refl _
  | x :: l, acc => (st_aux l (insT x acc)).trans (((insT_perm x acc).append_left l).trans List.perm_middle)
theorem st_perm (l : List α) : (st l).Perm l := by
  have := st_aux l []
  rwa [List.append_nil] at this
theorem lt_false {a b : α} (h : Enc.lt b a = true) : Enc.lt a b = false := by
  cases hh : Enc.lt a b with
  | false => rfl
  | true => have := Enc.tr _ _ _ h hh; rw [Enc.irr] at this; cases this
theorem le_tr {a b c : α} (h1 : Enc.lt b a = false) (h2 : Enc.lt c b = false) : Enc.lt c a = false := by
  cases hh : Enc.lt c a with
  | false => rfl
  | true =>
    by_cases hb : a = b
    · rw [hb, h2] at hh; cases hh
    · rcases Enc.tot a b hb with h | h
      · rw [Enc.tr _ _ _ hh h] at h2; cases h2
      · rw [h] at h1; cases h1
theorem insT_up {x : α} : ∀ {l : List α}, Up l → Up (insT x l)
  | [], _ => List.pairwise_singleton _ _
  | y :: l, h => by
    have ⟨h1, h2⟩ := List.pairwise_cons.1 h
    rw [insT]
    split
    · rename_i hx
      refine List.pairwise_cons.2 ⟨fun z hz => ?_, h⟩
      rcases List.mem_cons.1 hz with rfl | hz
      · exact lt_false hx
      · exact le_tr (lt_false hx) (h1 z hz)
    · rename_i hx
      refine List.pairwise_cons.2 ⟨fun z hz => ?_, insT_up h2⟩
      rcases List.mem_cons.1 ((insT_perm x l).mem_iff.1 hz) with rfl | hz
      · exact Bool.eq_false_iff.2 hx
      · exact h1 z hz
theorem st_up (l : List α) : Up (st l) := by
  have key : ∀ (l acc : List α), Up acc → Up (l.foldl (fun acc x => insT x acc) acc) := by
    intro l
    induction l with
    | nil => intro acc h; exact h
    | cons x l ih => intro acc h; exact ih _ (insT_up h)
  exact key l [] List.Pairwise.nil
theorem up_eq : ∀ {l m : List α}, Up l → Up m → l.Perm m → l = m
  | [], m, _, _, h => (List.nil_perm.1 h).symm
  | x :: l, m, h1, h2, h => by
    cases m with
    | nil => exact absurd h (by simp)
    | cons y m =>
      have ⟨a1, a2⟩ := List.pairwise_cons.1 h1
      have ⟨b1, b2⟩ := List.pairwise_cons.1 h2
      have hxy : x = y := by
        by_cases hh : x = y
        · exact hh
        · have m1 : x ∈ m := (List.mem_cons.1 (h.mem_iff.1 List.mem_cons_self)).resolve_left hh
          have m2 : y ∈ l := (List.mem_cons.1 (h.mem_iff.2 List.mem_cons_self)).resolve_left fun z => hh z.symm
          have c1 := a1 y m2
          have c2 := b1 x m1
          rcases Enc.tot x y hh with c | c
          · rw [c] at c2; cases c2
          · rw [c] at c1; cases c1
      subst hxy
      rw [up_eq a2 b2 (List.Perm.cons_inv h)]
theorem st_eq {l m : List α} (h : l.Perm m) : st l = st m := up_eq (st_up l) (st_up m) (((st_perm l).trans h).trans (st_perm m).symm)
theorem st_id {l : List α} (h : Up l) : st l = l := up_eq (st_up l) h (st_perm l)
theorem Asc.up {l : List α} (h : Asc l) : Up l := List.Pairwise.imp (fun h => lt_false h) h
theorem Asc.nodup {l : List α} (h : Asc l) : l.Nodup := List.Pairwise.imp (fun h e => by rw [e, Enc.irr] at h; cases h) h
theorem mem_st {l : List α} {x : α} : x ∈ st l ↔ x ∈ l := (st_perm l).mem_iff
theorem mem_ddT {x : α} : ∀ {l : List α}, x ∈ ddT l ↔ x ∈ l
  | [] => by rw [ddT]
  | y :: l => by
    rw [ddT, List.mem_cons, List.mem_cons, List.mem_filter, mem_ddT (l := l)]
    by_cases h : x = y
    · simp [h]
    · have : ¬ y = x := fun z => h z.symm
      simp [h, this]
theorem nodup_ddT : ∀ l : List α, (ddT l).Nodup
  | [] => List.nodup_nil
  | y :: l => by
    rw [ddT, List.nodup_cons]
    exact ⟨fun h => by have := (List.mem_filter.1 h).2; simp at this, (nodup_ddT l).filter _⟩
theorem mem_sd {l : List α} {x : α} : x ∈ sd l ↔ x ∈ l := by rw [sd, mem_st, mem_ddT]
theorem sd_nodup (l : List α) : (sd l).Nodup := (st_perm _).nodup_iff.2 (nodup_ddT l)
theorem up_asc {l : List α} (h : Up l) (hn : l.Nodup) : Asc l := by
  refine List.Pairwise.imp₂ (fun a b h1 h2 => ?_) h hn
  rcases Enc.tot a b h2 with h | h
  · exact h
  · rw [h] at h1; cases h1
theorem sd_asc (l : List α) : Asc (sd l) := up_asc (st_up _) (sd_nodup l)
theorem asc_eq {l m : List α} (h1 : Asc l) (h2 : Asc m) (h : ∀ x, x ∈ l ↔ x ∈ m) : l = m :=
  up_eq h1.up h2.up ((List.perm_ext_iff_of_nodup h1.nodup h2.nodup).2 h)
theorem sd_eq {l m : List α} (h : ∀ x, x ∈ l ↔ x ∈ m) : sd l = sd m := asc_eq (sd_asc l) (sd_asc m) fun x => by rw [mem_sd, mem_sd, h]
theorem sd_id {l : List α} (h : Asc l) : sd l = l := asc_eq (sd_asc l) h fun _ => mem_sd
theorem sd_is {l m : List α} (h : Asc m) (hm : ∀ x, x ∈ l ↔ x ∈ m) : sd l = m := asc_eq (sd_asc l) h fun x => by rw [mem_sd, hm]
theorem st_sd {l : List α} (h : l.Nodup) : st l = sd l := asc_eq (up_asc (st_up l) ((st_perm l).nodup_iff.2 h)) (sd_asc l) fun x => by rw [mem_sd, mem_st]
theorem Asc.filter {l : List α} (h : Asc l) (p : α → Bool) : Asc (l.filter p) := List.Pairwise.filter p h
theorem ddT_len (l : List α) : (ddT l).length ≤ l.length := by
  induction l with
  | nil => exact Nat.le_refl _
  | cons x l ih =>
    rw [ddT, List.length_cons, List.length_cons]
    exact Nat.succ_le_succ (Nat.le_trans (List.length_filter_le ..) ih)
theorem sd_len (l : List α) : (sd l).length ≤ l.length := by
  rw [sd, (st_perm _).length_eq]; exact ddT_len l
theorem st_len (l : List α) : (st l).length = l.length := (st_perm _).length_eq
theorem nodup_sub_len {l m : List α} (hl : l.Nodup) (h : ∀ x ∈ l, x ∈ m) : l.length ≤ m.length := by
  induction l generalizing m with
  | nil => exact Nat.zero_le _
  | cons x l ih =>
    rw [List.nodup_cons] at hl
    have hx := h x List.mem_cons_self
    have := ih (m := m.erase x) hl.2 fun y hy => (List.mem_erase_of_ne (fun z : y = x => hl.1 (z ▸ hy))).2 (h y (List.mem_cons_of_mem _ hy))
    have h2 := List.length_erase_of_mem hx
    have h3 : 0 < m.length := List.length_pos_of_mem hx
    rw [List.length_cons]
    omega
theorem minable_e (h : Enc.dep α ≤ 60) (l : List α) : minable (l.map e) = true := by
  rw [minable, Bool.and_eq_true]
  refine ⟨List.all_eq_true.2 fun x hx => ?_, List.all_eq_true.2 fun x hx => ?_⟩
  · obtain ⟨a, _, rfl⟩ := List.mem_map.1 hx
    rw [Enc.non_e, Bool.not_false, Bool.true_and]
    refine List.all_eq_true.2 fun y hy => ?_
    obtain ⟨b, _, rfl⟩ := List.mem_map.1 hy
    exact Enc.alike_e a b
  · obtain ⟨a, _, rfl⟩ := List.mem_map.1 hx
    exact okD_e h a
theorem sortable_e [EncS α] (h : Enc.dep α ≤ 60) (l : List α) : sortable (l.map e) = true := by
  rw [sortable, minable_e h, Bool.true_and]
  refine List.all_eq_true.2 fun x hx => ?_
  obtain ⟨a, _, rfl⟩ := List.mem_map.1 hx
  rw [EncS.noTup_e]; rfl
theorem sorted_e [EncS α] (h : Enc.dep α ≤ 60) (l : List α) (hl : l.length ≤ 16777216) : sortedE (l.map e) = .ok (.lst ((st l).map e)) := by
  rw [sortedE, sortable_e h, fits_le (by rwa [List.length_map]), isort_e]; rfl
theorem sset_e [EncS α] (h8 : Enc.dep α ≤ 8) (l : List α) (hl : l.length < 4000) (hs : Enc.mix α = true ∨ (sd l).length < 63) : ssetE (.lst (l.map e)) = .ok (.lst ((sd l).map e)) := by
  have h60 : Enc.dep α ≤ 60 := Nat.le_trans h8 (by decide)
  have hset : settable (l.map e) = true := by
    rw [settable, Bool.or_eq_true, Bool.and_eq_true, Bool.and_eq_true]
    cases hm : Enc.mix α with
    | true =>
      refine Or.inl ⟨List.all_eq_true.2 fun x hx => ?_, by rw [List.length_map]; exact decide_eq_true hl⟩
      obtain ⟨a, _, rfl⟩ := List.mem_map.1 hx
      rw [Enc.mix_e, hm]
    | false =>
      refine Or.inr ⟨List.all_eq_true.2 fun x hx => ?_, ?_⟩
      · obtain ⟨a, _, rfl⟩ := List.mem_map.1 hx
        obtain ⟨y, m, hy⟩ := EncS.tup_e hm a
        have := isKey_e h8 a
        rw [hy] at this ⊢
        exact this
      · rcases hs with h | h
        · rw [hm] at h; cases h
        · rw [sd, (st_perm _).length_eq] at h
          rw [dedup_e, List.length_map]; exact decide_eq_true h
  have h2 : (sd l).length ≤ l.length := sd_len l
  have h3 : (ddT l).length ≤ l.length := ddT_len l
  rw [ssetE, seqOf, ok_bind, hset, need_true, ok_bind, dedup_e, sorted_e h60 _ (by omega)]; rfl
theorem sset_t [EncS α] (h8 : Enc.dep α ≤ 8) (l : List α) (hl : l.length < 4000) (hs : Enc.mix α = true ∨ (sd l).length < 63) : ssetE (.tup (l.map e)) = .ok (.lst ((sd l).map e)) := by
  exact sset_e h8 l hl hs
end
end Ev
end

section
/-! tools for the plain maths, five: walks and loops over values of plain types -/
set_option autoImplicit false
set_option linter.unusedSimpArgs false
set_option linter.unusedSectionVars false
namespace Ev
open Res PV
open Enc (e)
/-- a store that may stand when a def ends -/
def Sok (S : Store) : Prop := (S.all fun v => v.cb S.length) = true
theorem Sok.fin {S : Store} (h : Sok S) {v : PV} (hv : v.cb S.length = true) (env : Env) : finishC S.length (.ret v, env, S) = .ok (v, S) := by
  have h1 : (S.all fun v => v.cb S.length) = true := h
  have h2 : S.take S.length = S := List.take_of_length_le (Nat.le_refl _)
  simp only [finishC, h2, hv, h1, Bool.and_self, need_true, ok_bind]
theorem sok_nil : Sok [] := rfl
theorem Wst.sok {S : Store} (h : Wst S) : Sok S := by
  have h1 := h.len
  have h2 := h.cb
  unfold Sok
  rw [h1]; exact h2
section
variable {α β γ : Type} {en : α → PV} {en' : β → PV} {S : Store} {f : PV → Store → Res (List PV × Store)}
/-- each item alone -/
theorem each_fm {g : α → List β} {l : List α} (h : ∀ x ∈ l, f (en x) S = .ok ((g x).map en', S)) : eachL f (l.map en) S = .ok ((l.flatMap g).map en', S) := by
  induction l with
  | nil => rfl
  | cons x l ih =>
    rw [List.map_cons, each_cons, h x List.mem_cons_self, ok_bind]
    simp only []
    rw [ih fun y hy => h y (List.mem_cons_of_mem _ hy), ok_bind, List.flatMap_cons, List.map_append]
theorem each_map {g : α → β} {l : List α} (h : ∀ x ∈ l, f (en x) S = .ok ([en' (g x)], S)) : eachL f (l.map en) S = .ok ((l.map g).map en', S) := by
  rw [each_fm (g := fun x => [g x]) (en' := en') h]
  congr 3
  induction l with
  | nil => rfl
  | cons x l ih => rw [List.flatMap_cons, List.map_cons, ih fun y hy => h y (List.mem_cons_of_mem _ hy)]; rfl
theorem each_sel {p : α → Bool} {g : α → β} {l : List α} (h : ∀ x ∈ l, f (en x) S = .ok (if p x then [en' (g x)] else [], S)) : eachL f (l.map en) S = .ok (((l.filter p).map g).map en', S) := by
  rw [each_fm (g := fun x => if p x then [g x] else []) (en' := en') fun x hx => by rw [h x hx]; split <;> rfl]
  congr 3
  clear h
  induction l with
  | nil => rfl
  | cons x l ih => rw [List.flatMap_cons, ih, List.filter_cons]; split <;> rfl
theorem each_flt {p : α → Bool} {l : List α} (h : ∀ x ∈ l, f (en x) S = .ok (if p x then [en x] else [], S)) : eachL f (l.map en) S = .ok ((l.filter p).map en, S) := by
  have := each_sel (f := f) (en := en) (en' := en) (g := id) (l := l) (S := S) h
  rwa [List.map_id] at this
end
section
variable {α β γ : Type} [DecidableEq α] [DecidableEq β] [DecidableEq γ] [Enc α] [Enc β] [Enc γ]
@[simp] theorem bindT_pr (x : α × β) (i j : Nat) (env : EnvV) : bindT (.tp [i, j]) (e x) env = .ok ((env.set i (some (e x.1))).set j (some (e x.2))) := id rfl
@[simp] theorem bindE_pr (x : α × β) (i j : Nat) (env : Env) : bindE (.tp [i, j]) (e x) env = .ok ((env.set i (.fz (e x.1))).set j (.fz (e x.2))) := id rfl
@[simp] theorem bindT_tr (x : Tr α β γ) (i j k : Nat) (env : EnvV) : bindT (.tp [i, j, k]) (e x) env = .ok (((env.set i (some (e x.a))).set j (some (e x.b))).set k (some (e x.c))) := id rfl
@[simp] theorem bindE_tr (x : Tr α β γ) (i j k : Nat) (env : Env) : bindE (.tp [i, j, k]) (e x) env = .ok (((env.set i (.fz (e x.a))).set j (.fz (e x.b))).set k (.fz (e x.c))) := id rfl
theorem e_pr (a : α) (b : β) : (e (a, b) : PV) = .tup [e a, e b] := rfl
theorem e_tr (a : α) (b : β) (c : γ) : (e (⟨a, b, c⟩ : Tr α β γ) : PV) = .tup [e a, e b, e c] := rfl
theorem e_int (i : Int) : (e i : PV) = .int i := rfl
theorem e_txt (s : List Nat) : (e (⟨s⟩ : T) : PV) = .str s := rfl
theorem e_T (t : T) : (e t : PV) = .str t.s := rfl
theorem dep_int : Enc.dep Int = 0 := rfl
theorem dep_T : Enc.dep T = 0 := rfl
theorem dep_pr : Enc.dep (α × β) = max (Enc.dep α) (Enc.dep β) + 1 := rfl
theorem dep_tp : Enc.dep (Tp α) = Enc.dep α + 1 := rfl
theorem e_tp (l : List α) : (e (⟨l⟩ : Tp α) : PV) = .tup (l.map e) := rfl
theorem dep_tr : Enc.dep (Tr α β γ) = max (Enc.dep α) (max (Enc.dep β) (Enc.dep γ)) + 1 := rfl
@[simp] theorem mk_e (c : CE) (a : α) : mkSl c (e a) = .fz (e a) := by simp [mkSl]
@[simp] theorem cb_tup (n : Nat) (l : List PV) : (PV.tup l).cb n = cbL n l := by rw [PV.cb]
@[simp] theorem cb_lst (n : Nat) (l : List PV) : (PV.lst l).cb n = cbL n l := by rw [PV.cb]
@[simp] theorem cb_dct (n : Nat) (l : List (PV × PV)) : (PV.dct l).cb n = cbD n l := by rw [PV.cb]
@[simp] theorem cbL_nil (n : Nat) : cbL n [] = true := by rw [cbL]
@[simp] theorem cbL_cons (n : Nat) (x : PV) (l : List PV) : cbL n (x :: l) = (x.cb n && cbL n l) := by rw [cbL]
@[simp] theorem cb_int (n : Nat) (i : Int) : (PV.int i).cb n = true := id rfl
@[simp] theorem cb_str (n : Nat) (i : List Nat) : (PV.str i).cb n = true := id rfl
@[simp] theorem cb_bl (n : Nat) (i : Bool) : (PV.bl i).cb n = true := id rfl
@[simp] theorem cb_non (n : Nat) : PV.non.cb n = true := id rfl
theorem cbL_app (n : Nat) : ∀ l m : List PV, cbL n (l ++ m) = (cbL n l && cbL n m)
  | [], m => by simp
  | x :: l, m => by rw [List.cons_append, cbL_cons, cbL_cons, cbL_app n l m, Bool.and_assoc]
theorem fits_map {α β : Type} (g : α → β) {l : List α} (h : l.length ≤ 16777216) : fitsL (l.map g) = true := fits_le (by rwa [List.length_map])
end
@[simp] theorem pi_lst (l : List PV) : (PV.lst l).partsImm = immL l := by rw [partsImm]
@[simp] theorem pi_tup (l : List PV) : (PV.tup l).partsImm = immL l := by rw [partsImm]
@[simp] theorem pi_int (i : Int) : (PV.int i).partsImm = true := by rw [partsImm] <;> simp
@[simp] theorem pi_str (i : List Nat) : (PV.str i).partsImm = true := by rw [partsImm] <;> simp
@[simp] theorem pi_bl (i : Bool) : (PV.bl i).partsImm = true := by rw [partsImm] <;> simp
@[simp] theorem freeze_val (s : Sl) : s.freeze.val = s.val := by cases s <;> rfl
@[simp] theorem freeze2 (s : Sl) : s.freeze.freeze = s.freeze := by cases s <;> rfl
@[simp] theorem at_0 {α : Type} (x : α) (l : List α) : atL (x :: l) 0 = some x := by
  have := at_nat (l := x :: l) (n := 0) (by simp)
  simpa using this
@[simp] theorem at_1 {α : Type} (x y : α) (l : List α) : atL (x :: y :: l) 1 = some y := by
  have := at_nat (l := x :: y :: l) (n := 1) (by simp)
  simpa using this
@[simp] theorem at_2 {α : Type} (x y z : α) (l : List α) : atL (x :: y :: z :: l) 2 = some z := by
  have := at_nat (l := x :: y :: z :: l) (n := 2) (by simp)
  simpa using this
@[simp] theorem at_3 {α : Type} (x y z u : α) (l : List α) : atL (x :: y :: z :: u :: l) 3 = some u := by
  have := at_nat (l := x :: y :: z :: u :: l) (n := 3) (by simp)
  simpa using this
@[simp] theorem sm_n1 : small62 (-1) = true := by decide
@[simp] theorem sl_hi_t (l : List PV) (m : Int) : slice (.tup l) none (some (.int m)) = (do need (small62 m); .ok (.tup (cut l none (some m)))) := by
  simp only [slice, asOpt, ok_bind]
  cases small62 m <;> rfl
@[simp] theorem sl_lo_t (l : List PV) (m : Int) : slice (.tup l) (some (.int m)) none = (do need (small62 m); .ok (.tup (cut l (some m) none))) := by
  simp only [slice, asOpt, ok_bind]
  cases small62 m <;> rfl
@[simp] theorem rev_l (l : List PV) : revE (.lst l) = .ok (.lst l.reverse) := id rfl
@[simp] theorem rev_t (l : List PV) : revE (.tup l) = .ok (.tup l.reverse) := id rfl
@[simp] theorem rev_s (l : List Nat) : revE (.str l) = .ok (.str l.reverse) := id rfl
@[simp] theorem sm_0 : small62 0 = true := by decide
@[simp] theorem sm_1 : small62 1 = true := by decide
@[simp] theorem sm_2 : small62 2 = true := by decide
@[simp] theorem sm_3 : small62 3 = true := by decide
@[simp] theorem bi_list_l (l : List PV) : builtin .list [.lst l] = (do need (fitsL l); .ok (.lst l)) := id rfl
@[simp] theorem bi_list_t (l : List PV) : builtin .list [.tup l] = (do need (fitsL l); .ok (.lst l)) := id rfl
theorem fits_len {α : Type} {l : List α} (h : l.length ≤ 16777216) : fitsL l = true := decide_eq_true h
theorem lt_line {n : Nat} (h : n < 16777216) : (n < line) = True := eq_true h
theorem dec_line {n : Nat} (h : n < 16777216) : decide (n < line) = true := decide_eq_true h
theorem small_nat {n : Nat} (h : n ≤ 16777216) : small62 (n : Int) = true := small_of (by omega) (by omega)
theorem small_int {i : Int} (h0 : 0 ≤ i) (h : i ≤ 16777216) : small62 i = true := small_of h0 h
/-! ### loops -/
theorem for_fold {σ α : Type} {t : Tgt} {body : Env → Store → Res Out} {en : α → PV} {S : Store} (I : List α → σ → Env → Prop) (step : σ → α → σ)
    (hs : ∀ x r s env, I (x :: r) s env → ∃ f env1, (bindE t (en x) env >>= fun e => body e S) = .ok (f, env1, S) ∧ (f = .nx ∨ f = .cont) ∧ I r (step s x) env1) :
    ∀ l s env, I l s env → ∃ env1, forL t body (l.map en) env S = .ok (.nx, env1, S) ∧ I [] (l.foldl step s) env1
  | [], s, env, h => ⟨env, for_nil .., h⟩
  | x :: l, s, env, h => by
    obtain ⟨f, env1, h1, h2, h3⟩ := hs x l s env h
    obtain ⟨env2, h4, h5⟩ := for_fold I step hs l _ _ h3
    refine ⟨env2, ?_, h5⟩
    obtain ⟨e1, h6, h7⟩ := bind_eq_ok h1
    rw [List.map_cons, for_cons, h6, ok_bind, h7, ok_bind]
    rcases h2 with rfl | rfl <;> exact h4
/-- .. a store that goes on -/
theorem for_st {σ α : Type} {t : Tgt} {body : Env → Store → Res Out} {en : α → PV} (I : List α → σ → Env → Store → Prop)
    (hs : ∀ x r s env S, I (x :: r) s env S → ∃ f env1 S1 s1, (bindE t (en x) env >>= fun e => body e S) = .ok (f, env1, S1) ∧ (f = .nx ∨ f = .cont) ∧ I r s1 env1 S1) :
    ∀ l s env S, I l s env S → ∃ env1 S1 s1, forL t body (l.map en) env S = .ok (.nx, env1, S1) ∧ I [] s1 env1 S1
  | [], s, env, S, h => ⟨env, S, s, for_nil .., h⟩
  | x :: l, s, env, S, h => by
    obtain ⟨f, env1, S1, s1, h1, h2, h3⟩ := hs x l s env S h
    obtain ⟨env2, S2, s2, h4, h5⟩ := for_st I hs l _ _ _ h3
    refine ⟨env2, S2, s2, ?_, h5⟩
    obtain ⟨e1, h6, h7⟩ := bind_eq_ok h1
    rw [List.map_cons, for_cons, h6, ok_bind, h7, ok_bind]
    rcases h2 with rfl | rfl <;> exact h4
/-- a comprehension that draws -/
theorem each_st {α β : Type} {en : α → PV} {en' : β → PV} {f : PV → Store → Res (List PV × Store)} (I : List α → List β → Store → Prop)
    (hs : ∀ x r acc S, I (x :: r) acc S → ∃ ys S1, f (en x) S = .ok (List.map en' ys, S1) ∧ I r (acc ++ ys) S1) :
    ∀ l acc S, I l acc S → ∃ ys S1, eachL f (l.map en) S = .ok (List.map en' ys, S1) ∧ I [] (acc ++ ys) S1
  | [], acc, S, h => ⟨[], S, rfl, by rwa [List.append_nil]⟩
  | x :: l, acc, S, h => by
    obtain ⟨ys, S1, h1, h2⟩ := hs x l acc S h
    obtain ⟨zs, S2, h3, h4⟩ := each_st I hs l _ _ h2
    exact ⟨ys ++ zs, S2, by rw [List.map_cons, each_cons, h1, ok_bind, h3, ok_bind, List.map_append], by rwa [← List.append_assoc]⟩
theorem while_step {cond : Env → Store → Res (Bool × Store)} {body : Env → Store → Res Out} {n : Nat} {env : Env} {S : Store} :
    whileL cond body (n + 1) env S = (do let b ← cond env S; if b.1 then (do let o ← body env b.2; match o.1 with | .ret v => .ok (.ret v, o.2.1, o.2.2) | .brk => .ok (.nx, o.2.1, o.2.2) | _ => whileL cond body n o.2.1 o.2.2) else .ok (.nx, env, b.2)) := by
  first | (simp only [whileL]; rfl) | simp only [whileL]
section
variable (cf : CallF) (gl : Nat → Option PV) (W : Nat) (en : Env) (S : Store)
/-- a while's test and body, not to be looked into before they run -/
def condW (c : CE) (e : Env) (s : Store) : Res (Bool × Store) := do let p ← evE cf gl (vals e) c s; let t ← truthy p.1; .ok (t, p.2)
@[simp] theorem s_whil (c : CE) (b : List CS) : evS cf gl W en (.whil c b) S = whileL (condW cf gl c) (bodyB cf gl W b) W en S := by
  first | (simp only [evS]; rfl) | simp only [evS]
end
/-- a while that ends: a measure goes down -/
theorem while_fold {σ : Type} {cond : Env → Store → Res (Bool × Store)} {body : Env → Store → Res Out} {S : Store} (I : σ → Env → Prop) (m : σ → Nat) (go : σ → Bool) (step : σ → σ)
    (hc : ∀ s env, I s env → cond env S = .ok (go s, S))
    (hb : ∀ s env, I s env → go s = true → ∃ f env1, body env S = .ok (f, env1, S) ∧ (f = .nx ∨ f = .cont) ∧ I (step s) env1 ∧ m (step s) < m s) :
    ∀ n s env, I s env → m s < n → ∃ env1 s1 k, whileL cond body n env S = .ok (.nx, env1, S) ∧ I s1 env1 ∧ go s1 = false ∧ s1 = Nat.repeat step k s
  | 0, _, _, _, h => absurd h (Nat.not_lt_zero _)
  | n + 1, s, env, h, hm => by
    rw [while_step, hc s env h, ok_bind]
    cases hg : go s with
    | false => exact ⟨env, s, 0, by simp, h, hg, rfl⟩
    | true =>
      obtain ⟨f, env1, h1, h2, h3, h4⟩ := hb s env h hg
      obtain ⟨env2, s2, k, h5, h6, h7, h8⟩ := while_fold I m go step hc hb n (step s) env1 h3 (by omega)
      refine ⟨env2, s2, k + 1, ?_, h6, h7, ?_⟩
      · simp only [if_true, h1, ok_bind]
        rcases h2 with rfl | rfl <;> exact h5
      · rw [h8]
        clear h5 h6 h7 h8
        induction k with
        | zero => rfl
        | succ k ih => show step (Nat.repeat step k (step s)) = step (Nat.repeat step (k + 1) s); rw [ih]
/-! ### tuple(sorted(set(..))) -/
def cSetOf : FC := ⟨1, 1, [(.ret (.bi .tuple [(.sset (.slot 0))]))]⟩
section
variable {α : Type} [DecidableEq α] [Enc α] [EncS α] {tab : List FC} {gl : Nat → Option PV} {W f : Nat}
theorem setof_l (h : tab[f]? = some cSetOf) {k : Nat} {S : Store} (hS : Sok S) (h8 : Enc.dep α ≤ 8) (l : List α) (hl : l.length < 4000) (hs : Enc.mix α = true ∨ (sd l).length < 63) :
    callAt tab gl W (k + 1) f [.lst (l.map e)] S = .ok (.tup ((sd l).map e), S) := by
  rw [cSetOf] at h
  rw [call_lit h]
  have := sd_len l
  simp [List.replicate, sset_e h8 l hl hs, fits_map e (by omega : (sd l).length ≤ 16777216), hS.fin]
theorem setof_t (h : tab[f]? = some cSetOf) {k : Nat} {S : Store} (hS : Sok S) (h8 : Enc.dep α ≤ 8) (l : List α) (hl : l.length < 4000) (hs : Enc.mix α = true ∨ (sd l).length < 63) :
    callAt tab gl W (k + 1) f [.tup (l.map e)] S = .ok (.tup ((sd l).map e), S) := by
  rw [cSetOf] at h
  rw [call_lit h]
  have := sd_len l
  simp [List.replicate, sset_t h8 l hl hs, fits_map e (by omega : (sd l).length ≤ 16777216), hS.fin]
end
end Ev
end

section
/-! tools for the plain maths, six: all that comes of some, one after another -/
set_option autoImplicit false
set_option linter.unusedSimpArgs false
set_option linter.unusedSectionVars false
set_option linter.unusedVariables false
namespace Ev
open Res PV
open Enc (e)
inductive Rch {α : Type} (nx : α → List α) (S0 : List α) : α → Prop
  | base {x : α} : x ∈ S0 → Rch nx S0 x
  | step {x y : α} : Rch nx S0 x → y ∈ nx x → Rch nx S0 y
section
variable {α : Type} [DecidableEq α] [Enc α] {nx : α → List α} {S0 U : List α}
theorem Rch.sub (h0 : ∀ x ∈ S0, x ∈ U) (hn : ∀ x ∈ U, ∀ y ∈ nx x, y ∈ U) {x : α} (h : Rch nx S0 x) : x ∈ U := by
  induction h with
  | base h => exact h0 _ h
  | step _ h2 ih => exact hn _ ih _ h2
theorem Rch.closed {p : α → Prop} (h0 : ∀ x ∈ S0, p x) (hn : ∀ x, p x → ∀ y ∈ nx x, p y) {x : α} (h : Rch nx S0 x) : p x := by
  induction h with
  | base h => exact h0 _ h
  | step _ h2 ih => exact hn _ ih _ h2
open Classical in
/-- all that comes of S0, in order -/
noncomputable def clo (nx : α → List α) (S0 U : List α) : List α := (sd U).filter fun x => decide (Rch nx S0 x)
theorem clo_asc : Asc (clo nx S0 U) := (sd_asc U).filter _
open Classical in
theorem mem_clo (h0 : ∀ x ∈ S0, x ∈ U) (hn : ∀ x ∈ U, ∀ y ∈ nx x, y ∈ U) {x : α} : x ∈ clo nx S0 U ↔ Rch nx S0 x := by
  unfold clo
  rw [List.mem_filter, mem_sd, decide_eq_true_eq]
  exact ⟨fun h => h.2, fun h => ⟨h.sub h0 hn, h⟩⟩
theorem clo_is (h0 : ∀ x ∈ S0, x ∈ U) (hn : ∀ x ∈ U, ∀ y ∈ nx x, y ∈ U) {l : List α} (hl : Asc l) (h : ∀ x, x ∈ l ↔ Rch nx S0 x) : l = clo nx S0 U :=
  asc_eq hl clo_asc fun x => by rw [h, mem_clo h0 hn]
/-- the list that grows, and the place reached -/
structure Wl (nx : α → List α) (S0 U : List α) (s : List α × Nat) : Prop where
  nd : s.1.Nodup
  rch : ∀ x ∈ s.1, Rch nx S0 x
  has : ∀ x ∈ S0, x ∈ s.1
  done : ∀ i x, i < s.2 → s.1[i]? = some x → ∀ y ∈ nx x, y ∈ s.1
  le : s.2 ≤ s.1.length
def wlStep (nx : α → List α) (s : List α × Nat) : List α × Nat := match s.1[s.2]? with
  | some x => (s.1 ++ (nx x).filter (fun y => !decide (y ∈ s.1)), s.2 + 1)
  | none => s
theorem Wl.start (h : S0.Nodup) : Wl nx S0 U (S0, 0) := ⟨h, fun x hx => .base hx, fun x hx => hx, fun i x hi => absurd hi (Nat.not_lt_zero i), Nat.zero_le _⟩
theorem Wl.len (h0 : ∀ x ∈ S0, x ∈ U) (hn : ∀ x ∈ U, ∀ y ∈ nx x, y ∈ U) {s : List α × Nat} (w : Wl nx S0 U s) : s.1.length ≤ U.length :=
  nodup_sub_len w.nd fun x hx => (w.rch x hx).sub h0 hn
theorem wlStep_eq {s : List α × Nat} (h : s.2 < s.1.length) : wlStep nx s = (s.1 ++ (nx s.1[s.2]).filter (fun y => !decide (y ∈ s.1)), s.2 + 1) := by
  rw [wlStep, List.getElem?_eq_getElem h]
theorem Wl.step (hd : ∀ x, Rch nx S0 x → (nx x).Nodup) {s : List α × Nat} (w : Wl nx S0 U s) (h : s.2 < s.1.length) : Wl nx S0 U (wlStep nx s) := by
  rw [wlStep_eq h]
  have hx : Rch nx S0 s.1[s.2] := w.rch _ (List.getElem_mem h)
  refine ⟨?_, ?_, ?_, ?_, ?_⟩
  · refine List.nodup_append.2 ⟨w.nd, (hd _ hx).filter _, fun a ha b hb hab => ?_⟩
    have := (List.mem_filter.1 hb).2
    rw [← hab] at this
    simp [ha] at this
  · intro x hm
    rcases List.mem_append.1 hm with hm | hm
    · exact w.rch x hm
    · exact .step hx (List.mem_filter.1 hm).1
  · exact fun x hm => List.mem_append_left _ (w.has x hm)
  · intro i x hi hix y hy
    by_cases hc : i < s.2
    · rw [List.getElem?_append_left (by have := w.le; omega)] at hix
      exact List.mem_append_left _ (w.done i x hc hix y hy)
    · have hi2 : i = s.2 := by simp only at hi; omega
      rw [hi2, List.getElem?_append_left h, List.getElem?_eq_getElem h] at hix
      have hix := Option.some.inj hix
      by_cases hm : y ∈ s.1
      · exact List.mem_append_left _ hm
      · refine List.mem_append_right _ (List.mem_filter.2 ⟨hix ▸ hy, by simp [hm]⟩)
  · show s.2 + 1 ≤ (s.1 ++ _).length
    rw [List.length_append]; omega
theorem Wl.all {s : List α × Nat} (w : Wl nx S0 U s) (h : ¬ s.2 < s.1.length) {x : α} : x ∈ s.1 ↔ Rch nx S0 x := by
  refine ⟨w.rch x, fun hx => hx.closed w.has fun z hz y hy => ?_⟩
  obtain ⟨i, hi, rfl⟩ := List.getElem_of_mem hz
  exact w.done i _ (by omega) (List.getElem?_eq_getElem hi) y hy
theorem Wl.st (h0 : ∀ x ∈ S0, x ∈ U) (hn : ∀ x ∈ U, ∀ y ∈ nx x, y ∈ U) {s : List α × Nat} (w : Wl nx S0 U s) (h : ¬ s.2 < s.1.length) : st s.1 = clo nx S0 U :=
  clo_is h0 hn (up_asc (st_up _) ((st_perm _).nodup_iff.2 w.nd)) fun x => by rw [mem_st]; exact w.all h
end
end Ev
end

section
/-! tools for the plain maths, seven: dicts of plain keys; least and greatest; places -/
set_option autoImplicit false
set_option linter.unusedSimpArgs false
set_option linter.unusedSectionVars false
set_option linter.unusedVariables false
namespace Ev
open Res PV
open Enc (e)
section
variable {α β : Type} [DecidableEq α] [Enc α]
def encD (d : List (α × PV)) : List (PV × PV) := d.map fun p => (e p.1, p.2)
def getT (d : List (α × β)) (k : α) : Option β := (d.find? fun p => decide (p.1 = k)).map (·.2)
def putT (d : List (α × β)) (k : α) (v : β) : List (α × β) := if k ∈ d.map (·.1) then d.map (fun p => if p.1 = k then (p.1, v) else p) else d ++ [(k, v)]
def updT (d m : List (α × β)) : List (α × β) := m.foldl (fun a p => putT a p.1 p.2) d
def delT (d : List (α × β)) (k : α) : List (α × β) := d.filter fun p => !decide (p.1 = k)
theorem has_e (d : List (α × PV)) (k : α) : dHas (encD d) (e k) = decide (k ∈ d.map (·.1)) := by
  unfold dHas encD
  rw [List.any_map]
  simp only [Function.comp_def, Enc.eqv_e]
  refine Bool.eq_iff_iff.2 ?_
  simp
theorem get_e (d : List (α × PV)) (k : α) : dGet (encD d) (e k) = getT d k := by
  unfold dGet getT encD
  rw [List.find?_map]
  simp only [Function.comp_def, Enc.eqv_e, Option.map_map]
theorem put_e (d : List (α × PV)) (k : α) (v : PV) : dPut (encD d) (e k) v = encD (putT d k v) := by
  unfold putT
  rw [dPut, has_e]
  simp only [decide_eq_true_eq]
  split
  · unfold encD
    rw [List.map_map, List.map_map]
    refine List.map_congr_left fun p _ => ?_
    simp only [Function.comp, Enc.eqv_e, decide_eq_true_eq]
    split <;> rfl
  · unfold encD; rw [List.map_append]; rfl
theorem upd_e (m : List (α × PV)) : ∀ d : List (α × PV), dUpd (encD d) (encD m) = encD (updT d m) := by
  induction m with
  | nil => intro d; rfl
  | cons p m ih =>
    intro d
    show dUpd (dPut (encD d) (e p.1) p.2) (encD m) = _
    rw [put_e, ih]; rfl
theorem del_e (d : List (α × PV)) (k : α) : dDel (encD d) (e k) = encD (delT d k) := by
  unfold dDel delT encD
  rw [List.filter_map]
  simp only [Function.comp_def, Enc.eqv_e]
theorem encD_nil : encD ([] : List (α × PV)) = [] := rfl
@[simp] theorem encD_len (d : List (α × PV)) : (encD d).length = d.length := by simp [encD]
theorem encD_keys (d : List (α × PV)) : (encD d).map (·.1) = (d.map (·.1)).map e := by simp [encD]
theorem encD_mix (h : Enc.mix α = true) (d : List (α × PV)) : ((encD d).all fun kv => kv.1.isMix) = true := by
  refine List.all_eq_true.2 fun x hx => ?_
  obtain ⟨p, _, rfl⟩ := List.mem_map.1 hx
  rw [Enc.mix_e, h]
theorem pairs_e (h : Enc.dep α ≤ 8) (d : List (α × PV)) : pairsOf (d.map fun p => .tup [e p.1, p.2]) = .ok (encD d) := by
  have := pairsOf_map (ps := encD d) fun kv hkv => by
    obtain ⟨p, _, rfl⟩ := List.mem_map.1 hkv
    exact isKey_e h p.1
  rw [← this]
  unfold encD
  rw [List.map_map]; rfl
theorem putT_keys (d : List (α × β)) (k : α) (v : β) : (putT d k v).map (·.1) = if k ∈ d.map (·.1) then d.map (·.1) else d.map (·.1) ++ [k] := by
  unfold putT
  split
  · rw [List.map_map]
    exact List.map_congr_left fun p _ => by simp only [Function.comp]; split <;> rfl
  · rw [List.map_append]; rfl
theorem mem_putT {d : List (α × β)} {k x : α} {v : β} : x ∈ (putT d k v).map (·.1) ↔ x = k ∨ x ∈ d.map (·.1) := by
  rw [putT_keys]
  split
  · rename_i h
    exact ⟨Or.inr, fun h2 => h2.elim (fun h3 => h3 ▸ h) id⟩
  · rw [List.mem_append, List.mem_singleton]; exact ⟨Or.symm, Or.symm⟩
theorem mem_updT {m : List (α × β)} {x : α} : ∀ {d : List (α × β)}, x ∈ (updT d m).map (·.1) ↔ x ∈ d.map (·.1) ∨ x ∈ m.map (·.1) := by
  induction m with
  | nil => intro d; simp [updT]
  | cons p m ih =>
    intro d
    show x ∈ (updT (putT d p.1 p.2) m).map (·.1) ↔ _
    rw [ih, mem_putT, List.map_cons, List.mem_cons]
    constructor
    · rintro ((h | h) | h)
      · exact Or.inr (Or.inl h)
      · exact Or.inl h
      · exact Or.inr (Or.inr h)
    · rintro (h | h | h)
      · exact Or.inl (Or.inr h)
      · exact Or.inl (Or.inl h)
      · exact Or.inr h
theorem putT_nodup {d : List (α × β)} {k : α} {v : β} (h : (d.map (·.1)).Nodup) : ((putT d k v).map (·.1)).Nodup := by
  rw [putT_keys]
  split
  · exact h
  · rename_i hk
    refine List.nodup_append.2 ⟨h, by simp, fun a ha b hb hab => hk ?_⟩
    rw [← List.mem_singleton.1 hb, ← hab]; exact ha
theorem updT_nodup {m : List (α × β)} : ∀ {d : List (α × β)}, (d.map (·.1)).Nodup → ((updT d m).map (·.1)).Nodup := by
  induction m with
  | nil => intro d h; exact h
  | cons p m ih => intro d h; exact ih (putT_nodup h)
theorem putT_len (d : List (α × β)) (k : α) (v : β) : (putT d k v).length ≤ d.length + 1 := by
  unfold putT; split
  · rw [List.length_map]; exact Nat.le_succ _
  · rw [List.length_append]; exact Nat.le_refl _
theorem updT_len (m : List (α × β)) : ∀ d : List (α × β), (updT d m).length ≤ d.length + m.length := by
  induction m with
  | nil => intro d; exact Nat.le_refl _
  | cons p m ih =>
    intro d
    have h1 := ih (putT d p.1 p.2)
    have h2 := putT_len d p.1 p.2
    show (updT (putT d p.1 p.2) m).length ≤ _
    rw [List.length_cons]; omega
theorem putT_new {d : List (α × β)} {k : α} {v : β} (h : k ∉ d.map (·.1)) : putT d k v = d ++ [(k, v)] := by rw [putT, if_neg h]
theorem updT_new : ∀ {m d : List (α × β)}, ((d ++ m).map (·.1)).Nodup → updT d m = d ++ m
  | [], d, _ => by rw [List.append_nil]; rfl
  | p :: m, d, h => by
    have h1 : p.1 ∉ d.map (·.1) := fun hh => by
      rw [List.map_append, List.nodup_append] at h
      exact h.2.2 _ hh _ (by rw [List.map_cons]; exact List.mem_cons_self) rfl
    show updT (putT d p.1 p.2) m = _
    rw [putT_new h1]
    have h2 : ((d ++ [p]) ++ m) = d ++ p :: m := by rw [List.append_assoc]; rfl
    have := updT_new (m := m) (d := d ++ [p]) (by rw [h2]; exact h)
    rw [h2] at this
    exact this
theorem getT_putT {d : List (α × β)} {k x : α} {v : β} : getT (putT d k v) x = if x = k then some v else getT d x := by
  unfold getT putT
  split
  · rename_i hk
    rw [List.find?_map]
    have e1 : ((fun p : α × β => decide (p.1 = x)) ∘ fun p => if p.1 = k then (p.1, v) else p) = fun p : α × β => decide (p.1 = x) := by
      funext p; simp only [Function.comp]; split <;> rfl
    rw [e1, Option.map_map]
    split
    · rename_i hx
      subst hx
      cases hf : d.find? (fun p => decide (p.1 = x)) with
      | none =>
        obtain ⟨p, hp, hpx⟩ := List.mem_map.1 hk
        exact absurd (List.find?_eq_none.1 hf p hp) (by simp [hpx])
      | some p =>
        have := List.find?_some hf
        simp only [decide_eq_true_eq] at this
        simp [this]
    · rename_i hx
      cases hf : d.find? (fun p => decide (p.1 = x)) with
      | none => rfl
      | some p =>
        have := List.find?_some hf
        simp only [decide_eq_true_eq] at this
        simp [this, hx]
  · rename_i hk
    rw [List.find?_append]
    cases hf : d.find? (fun p => decide (p.1 = x)) with
    | none =>
      by_cases hx : x = k
      · subst hx; simp
      · have : ¬ k = x := fun h => hx h.symm
        simp [hx, this]
    | some p =>
      have h1 := List.find?_some hf
      simp only [decide_eq_true_eq] at h1
      have h2 : ¬ x = k := fun h => hk (List.mem_map.2 ⟨p, List.mem_of_find?_eq_some hf, h1.trans h⟩)
      simp [h2]
theorem getT_none {d : List (α × β)} {k : α} : getT d k = none ↔ k ∉ d.map (·.1) := by
  unfold getT
  rw [Option.map_eq_none_iff, List.find?_eq_none]
  constructor
  · intro h hk
    obtain ⟨p, hp, rfl⟩ := List.mem_map.1 hk
    exact h p hp (by simp)
  · intro h p hp hh
    exact h (List.mem_map.2 ⟨p, hp, by simpa using hh⟩)
theorem getT_mem {d : List (α × β)} {k : α} {v : β} (h : getT d k = some v) : (k, v) ∈ d := by
  unfold getT at h
  obtain ⟨p, h1, rfl⟩ := Option.map_eq_some_iff.1 h
  have h2 := List.find?_some h1
  have h3 := List.mem_of_find?_eq_some h1
  simp only [decide_eq_true_eq] at h2
  rw [← h2]; exact h3
theorem getT_of {d : List (α × β)} (hn : (d.map (·.1)).Nodup) {k : α} {v : β} (h : (k, v) ∈ d) : getT d k = some v := by
  induction d with
  | nil => cases h
  | cons p d ih =>
    rw [List.map_cons, List.nodup_cons] at hn
    unfold getT
    rw [List.find?_cons]
    rcases List.mem_cons.1 h with h | h
    · subst h; simp
    · have : ¬ p.1 = k := fun hh => hn.1 (List.mem_map.2 ⟨_, h, hh.symm⟩)
      simp only [this, decide_false]
      exact ih hn.2 h
theorem getT_some {d : List (α × β)} {k : α} (h : k ∈ d.map (·.1)) : ∃ v, getT d k = some v := by
  cases hh : getT d k with
  | none => exact absurd h (getT_none.1 hh)
  | some v => exact ⟨v, rfl⟩
end
/-! least and greatest -/
section
variable {α : Type} [DecidableEq α] [Enc α]
def mnT (x : α) (l : List α) : α := l.foldl (fun a y => if Enc.lt y a then y else a) x
def mxT (x : α) (l : List α) : α := l.foldl (fun a y => if Enc.lt a y then y else a) x
theorem minOf_e (l : List α) : ∀ x : α, minOf (e x) (l.map e) = e (mnT x l) := by
  induction l with
  | nil => intro x; rfl
  | cons y l ih =>
    intro x
    show minOf (if (e y).ltb (e x) = true then e y else e x) (l.map e) = _
    rw [Enc.ltb_e]
    show _ = e (mnT (if Enc.lt y x = true then y else x) l)
    split <;> exact ih _
theorem maxOf_e (l : List α) : ∀ x : α, maxOf (e x) (l.map e) = e (mxT x l) := by
  induction l with
  | nil => intro x; rfl
  | cons y l ih =>
    intro x
    show maxOf (if (e x).ltb (e y) = true then e y else e x) (l.map e) = _
    rw [Enc.ltb_e]
    show _ = e (mxT (if Enc.lt x y = true then y else x) l)
    split <;> exact ih _
theorem bi_min (h : Enc.dep α ≤ 60) (x : α) (l : List α) : builtin .min [.lst (e x :: l.map e)] = .ok (e (mnT x l)) := by
  rw [builtin, ← List.map_cons, need_of (minable_e h (x :: l)), ok_bind, minOf_e]
theorem bi_max (h : Enc.dep α ≤ 60) (x : α) (l : List α) : builtin .max [.lst (e x :: l.map e)] = .ok (e (mxT x l)) := by
  rw [builtin, ← List.map_cons, need_of (minable_e h (x :: l)), ok_bind, maxOf_e]
theorem mnT_mem (l : List α) : ∀ x : α, mnT x l ∈ x :: l := by
  induction l with
  | nil => intro x; exact List.mem_cons_self
  | cons y l ih =>
    intro x
    show mnT (if Enc.lt y x = true then y else x) l ∈ _
    rcases List.mem_cons.1 (ih (if Enc.lt y x = true then y else x)) with h | h
    · rw [h]; split <;> simp
    · exact List.mem_cons_of_mem _ (List.mem_cons_of_mem _ h)
theorem mnT_le (l : List α) : ∀ x y : α, y ∈ x :: l → Enc.lt y (mnT x l) = false := by
  induction l with
  | nil => intro x y h; rw [List.mem_singleton.1 h]; exact Enc.irr x
  | cons z l ih =>
    intro x y h
    show Enc.lt y (mnT (if Enc.lt z x = true then z else x) l) = false
    have h1 : Enc.lt (if Enc.lt z x = true then z else x) (mnT (if Enc.lt z x = true then z else x) l) = false := ih _ _ List.mem_cons_self
    rcases List.mem_cons.1 h with rfl | h
    · refine le_tr h1 ?_
      split
      · rename_i hz; exact lt_false hz
      · exact Enc.irr _
    · rcases List.mem_cons.1 h with rfl | h
      · refine le_tr h1 ?_
        split
        · exact Enc.irr _
        · rename_i hz; exact Bool.eq_false_iff.2 hz
      · exact ih _ _ (List.mem_cons_of_mem _ h)
end
section
variable {α β γ : Type} [DecidableEq α] [DecidableEq β] [DecidableEq γ] [Enc α] [Enc β] [Enc γ]
@[simp] theorem su_pr0 (p : α × β) : subscr (e p) (.int 0) = .ok (e p.1) := id rfl
@[simp] theorem su_pr1 (p : α × β) : subscr (e p) (.int 1) = .ok (e p.2) := id rfl
@[simp] theorem su_tr0 (p : Tr α β γ) : subscr (e p) (.int 0) = .ok (e p.a) := id rfl
@[simp] theorem su_tr1 (p : Tr α β γ) : subscr (e p) (.int 1) = .ok (e p.b) := id rfl
@[simp] theorem su_tr2 (p : Tr α β γ) : subscr (e p) (.int 2) = .ok (e p.c) := id rfl
end
@[simp] theorem eq_nn : eqE .non .non = .ok true := id rfl
@[simp] theorem eq_ll0 : eqE (.lst []) (.lst []) = .ok true := id rfl
@[simp] theorem eq_tt0 : eqE (.tup []) (.tup []) = .ok true := id rfl
theorem at_map {α : Type} (g : α → PV) {l : List α} {n : Nat} (h : n < l.length) : atL (l.map g) (n : Int) = some (g l[n]) := by
  rw [at_nat (by rwa [List.length_map]), List.getElem_map]
theorem range_e (n : Nat) : rangeL 0 (n : Int) 1 = (List.range n).map fun (k : Nat) => PV.int k := by rw [rangeL_up, Int.toNat_natCast]
end Ev
end

section
/-! tools for the plain maths, eight: a law of turns -/
set_option autoImplicit false
set_option linter.unusedSimpArgs false
set_option linter.unusedSectionVars false
set_option linter.unusedVariables false
namespace Ev
open Res PV
open Enc (e)
/-- the slots of a law between turns -/
structure Tn (N : Nat) (env : Env) (S : Store) : Prop where
  len : env.length = N
  w : env[1]? = some (.fz (.cel 0))
  st : Wst S
/-- a turn's end -/
def Ends (N : Nat) (r : Res Out) : Prop := ∃ env' S', r = .ok (.nx, env', S') ∧ Tn N env' S'
section
variable {cf : CallF} {gl : Nat → Option PV} {W N : Nat} {env env1 : Env} {S S1 : Store} {c : CS} {cs : List CS}
theorem Ends.go (h : evS cf gl W env c S = .ok (.nx, env1, S1)) (h2 : Ends N (evB cf gl W env1 cs S1)) : Ends N (evB cf gl W env (c :: cs) S) := by
  rw [s_cons, h, ok_bind]
  exact h2
theorem Ends.nil (h : Tn N env S) : Ends N (evB cf gl W env [] S) := ⟨env, S, s_nil .., h⟩
theorem ok_eq {a b : Env} {s t : Store} (h1 : a = b) (h2 : s = t) : (Res.ok (Flow.nx, a, s) : Res Out) = .ok (.nx, b, t) := by rw [h1, h2]
end
theorem turns_ok {cf : CallF} {gl : Nat → Option PV} {W N : Nat} {L : List CS} (hN : 2 < N) (h : ∀ env S, Tn N env S → ∃ env' S', evB cf gl W env L S = .ok (.nx, env', S') ∧ Tn N env' S') :
    ∀ (l : List PV) env S, Tn N env S → ∃ env' S', forL (.nm 2) (bodyB cf gl W L) l env S = .ok (.nx, env', S') ∧ Tn N env' S'
  | [], env, S, t => ⟨env, S, for_nil .., t⟩
  | x :: l, env, S, t => by
    obtain ⟨env1, S1, h1, t1⟩ := h (env.set 2 (.fz x)) S ⟨by rw [List.length_set]; exact t.len, by rw [List.getElem?_set_ne (by decide)]; exact t.w, t.st⟩
    obtain ⟨env2, S2, h2, t2⟩ := turns_ok hN h l env1 S1 t1
    refine ⟨env2, S2, ?_, t2⟩
    rw [for_cons, bindE_nm, ok_bind, bodyB_app, h1, ok_bind]
    exact h2
theorem law_turns {tab : List FC} {gl : Nat → Option PV} {W N il d k : Nat} {m n : Int} {L : List CS} (hN : 2 < N)
    (hl : tab[il]? = some ⟨1, N, [.cell 1 (.dic [.str [100, 114, 97, 119, 115], .call d [.slot 0, .int m], .str [97, 116], .int 0]), .for (.nm 2) (.rng [.int n]) L, .ret (.bl true)]⟩)
    (hd : tab[d]? = some cDraws) (h0 : 0 ≤ m) (hm : m ≤ 4000) (hn0 : 0 ≤ n) (hn : n ≤ 1000)
    (h : ∀ env S, Tn N env S → ∃ env' S', evB (callAt tab gl W (k + 1)) gl W env L S = .ok (.nx, env', S') ∧ Tn N env' S')
    {ns : List Int} (hns : ns.length ≤ 63) : callAt tab gl W (k + 2) il [.scr ns] [] = .ok (.bl true, []) := by
  obtain ⟨ds, e1, hds⟩ := draws_ok (tab := tab) (gl := gl) (W := W) (f := d) hd (k := k) hns h0 hm
  have hW : Wst (wst ds 0) := ⟨ds, 0, rfl, by omega, hds⟩
  obtain ⟨M, rfl⟩ : ∃ M, N = M + 2 := ⟨N - 2, by omega⟩
  obtain ⟨env2, S2, e2, t2⟩ := turns_ok hN h (rangeL 0 n 1) (.fz (.scr ns) :: .fz (.cel 0) :: List.replicate M .un) (wst ds 0) ⟨by simp, by simp, hW⟩
  have e3 : dUpd [] [(PV.str [100, 114, 97, 119, 115], PV.lst (ds.map .int)), (.str [97, 116], .int 0)] = [(.str kDraws, .lst (ds.map .int)), (.str kAt, .int 0)] := rfl
  have e4 : (PV.dct [(PV.str kDraws, PV.lst (ds.map .int)), (.str kAt, .int 0)]).isMut = true := rfl
  have e6 : rangeE [.int n] = .ok (rangeL 0 n 1) := by
    rw [rg_1, small_of hn0 (by omega), decide_eq_true (by omega : n ≤ 16777216)]; rfl
  have hf : finishC 0 (.ret (.bl true), env2, S2) = .ok (.bl true, []) := by simp [finishC, PV.cb]
  have e9 : ∀ (M k : Nat) (is : List Nat), demoteFrom k (List.replicate M Sl.un) is = List.replicate M .un := fun M => by
    induction M with
    | zero => intro k is; rfl
    | succ M ih =>
      intro k is
      rw [List.replicate_succ, demF_cons, ih]
      split <;> rfl
  have e10 : (List.replicate (M + 1) Sl.un).set 0 (.fz (.cel 0)) = .fz (.cel 0) :: List.replicate M .un := rfl
  rw [call_lit hl]
  have e8 : (PV.dct [(PV.str kDraws, PV.lst (ds.map .int)), (.str kAt, .int 0)]).partsImm = false := by simp [partsImm]
  simp [e10, e1, e2, e3, e4, e6, e8, e9, hf, -rg_1]
end Ev
end

section
/-! tools for the plain maths, nine: sums, tuples to be sorted, all that comes by turns, defs that many laws have -/
set_option autoImplicit false
set_option linter.unusedSimpArgs false
set_option linter.unusedSectionVars false
set_option linter.unusedVariables false
namespace Ev
open Res PV
open Enc (e)
theorem sumOf_int : ∀ l : List Int, sumOf (l.map .int) = .ok l.sum
  | [] => rfl
  | i :: l => by rw [List.map_cons, sumOf, sumOf_int l]; simp
theorem bi_sum (l : List Int) : builtin .sum [.lst (l.map .int)] = .ok (.int l.sum) := by rw [builtin, sumOf_int]; rfl
theorem boolsOf_bl : ∀ l : List Bool, boolsOf (l.map .bl) = .ok l
  | [] => rfl
  | i :: l => by rw [List.map_cons, boolsOf, boolsOf_bl l]; rfl
theorem all_ok (l : List Bool) : builtin .all [.lst (l.map .bl)] = .ok (.bl (l.all id)) := by rw [bi_all, boolsOf_bl]; rfl
theorem any_ok (l : List Bool) : builtin .any [.lst (l.map .bl)] = .ok (.bl (l.any id)) := by rw [bi_any, boolsOf_bl]; rfl
/-! tuples of something, sorted -/
section
variable {α : Type} [DecidableEq α] [Enc α]
theorem sorted_of (h : Enc.dep α ≤ 60) (l : List α) (hl : l.length ≤ 16777216) (hn : ∀ a ∈ l, isNoTup (e a) = false) : sortedE (l.map e) = .ok (.lst ((st l).map e)) := by
  have hs : sortable (l.map e) = true := by
    rw [sortable, minable_e h, Bool.true_and]
    refine List.all_eq_true.2 fun x hx => ?_
    obtain ⟨a, ha, rfl⟩ := List.mem_map.1 hx
    rw [hn a ha]; rfl
  rw [sortedE, hs, fits_le (by rwa [List.length_map]), isort_e]; rfl
theorem sset_of (h8 : Enc.dep α ≤ 8) (l : List α) (hl : l.length < 4000) (hn : ∀ a ∈ l, ∃ x m, (e a : PV) = .tup (x :: m)) (hs : (sd l).length < 63) : ssetE (.lst (l.map e)) = .ok (.lst ((sd l).map e)) := by
  have h60 : Enc.dep α ≤ 60 := Nat.le_trans h8 (by decide)
  have hset : settable (l.map e) = true := by
    rw [settable, Bool.or_eq_true, Bool.and_eq_true, Bool.and_eq_true]
    refine Or.inr ⟨List.all_eq_true.2 fun x hx => ?_, ?_⟩
    · obtain ⟨a, ha, rfl⟩ := List.mem_map.1 hx
      obtain ⟨y, m, hy⟩ := hn a ha
      have := isKey_e h8 a
      rw [hy] at this ⊢
      exact this
    · rw [sd, (st_perm _).length_eq] at hs
      rw [dedup_e, List.length_map]; exact decide_eq_true hs
  have h3 : (ddT l).length ≤ l.length := ddT_len l
  rw [ssetE, seqOf, ok_bind, hset, need_true, ok_bind, dedup_e, sorted_of h60 _ (by omega) fun a ha => ?_]
  · rfl
  · obtain ⟨y, m, hy⟩ := hn a (mem_ddT.1 ha)
    rw [hy]; rfl
end
/-! all that comes by turns -/
section
variable {α : Type} [DecidableEq α] [Enc α] {nx : α → List α} {S0 U : List α}
/-- as many turns as there may be members lead to all -/
theorem iter_all {F : List α → List α} (hU : ∀ x, Rch nx S0 x → x ∈ U) (hnd : ∀ l, l.Nodup → (F l).Nodup) (hup : ∀ l x, x ∈ l → x ∈ F l) (hst : ∀ l, ∀ x ∈ l, ∀ y ∈ nx x, y ∈ F l) (hin : ∀ l, (∀ x ∈ l, Rch nx S0 x) → ∀ x ∈ F l, Rch nx S0 x)
    (h0 : S0.Nodup) : ∀ n : Nat, (∀ x ∈ Nat.repeat F n S0, Rch nx S0 x) ∧ (n ≤ (Nat.repeat F n S0).length ∨ ∀ x, Rch nx S0 x → x ∈ Nat.repeat F n S0) ∧ (Nat.repeat F n S0).Nodup ∧ ∀ x ∈ S0, x ∈ Nat.repeat F n S0
  | 0 => ⟨fun x hx => .base hx, Or.inl (Nat.zero_le _), h0, fun x hx => hx⟩
  | n + 1 => by
    obtain ⟨h1, h2, h3, h4⟩ := iter_all hU hnd hup hst hin h0 n
    generalize hl : Nat.repeat F n S0 = l at h1 h2 h3 h4
    have hr : Nat.repeat F (n + 1) S0 = F l := by rw [← hl]; rfl
    rw [hr]
    refine ⟨hin l h1, ?_, hnd l h3, fun x hx => hup l x (h4 x hx)⟩
    by_cases hall : ∀ x ∈ F l, x ∈ l
    · refine Or.inr fun x hx => hup l x (hx.closed h4 fun y hy z hz => hall z (hst l y hy z hz))
    · rcases h2 with h2 | h2
      · left
        obtain ⟨x, hx⟩ := Classical.not_forall.1 hall
        obtain ⟨hx1, hx2⟩ := Classical.not_imp.1 hx
        have := nodup_sub_len (l := x :: l) (m := F l) (List.nodup_cons.2 ⟨hx2, h3⟩) fun y hy => by
          rcases List.mem_cons.1 hy with rfl | hy
          · exact hx1
          · exact hup l y hy
        rw [List.length_cons] at this
        omega
      · exact absurd (fun x hx => h2 x (hin l h1 x hx)) hall
theorem iter_end {F : List α → List α} (hU : ∀ x, Rch nx S0 x → x ∈ U) (hnd : ∀ l, l.Nodup → (F l).Nodup) (hup : ∀ l x, x ∈ l → x ∈ F l) (hst : ∀ l, ∀ x ∈ l, ∀ y ∈ nx x, y ∈ F l) (hin : ∀ l, (∀ x ∈ l, Rch nx S0 x) → ∀ x ∈ F l, Rch nx S0 x)
    (h0 : S0.Nodup) {n : Nat} (hn : U.length ≤ n) {x : α} : x ∈ Nat.repeat F n S0 ↔ Rch nx S0 x := by
  obtain ⟨h1, h2, h3, h4⟩ := iter_all hU hnd hup hst hin h0 n
  refine ⟨h1 x, fun hx => ?_⟩
  rcases h2 with h2 | h2
  · refine Classical.byContradiction fun hc => ?_
    have := nodup_sub_len (l := x :: Nat.repeat F n S0) (m := U) (List.nodup_cons.2 ⟨hc, h3⟩) fun y hy => by
      rcases List.mem_cons.1 hy with rfl | hy
      · exact hU _ hx
      · exact hU _ (h1 y hy)
    rw [List.length_cons] at this
    omega
  · exact h2 x hx
end
/-- a while that returns -/
theorem while_ret {σ : Type} {cond : Env → Store → Res (Bool × Store)} {body : Env → Store → Res Out} {S : Store} (I : σ → Env → Prop) (m : σ → Nat) (fin : σ → Bool) (step : σ → σ) (v : σ → PV)
    (hc : ∀ s env, I s env → cond env S = .ok (true, S))
    (hr : ∀ s env, I s env → fin s = true → ∃ env1, body env S = .ok (.ret (v s), env1, S))
    (hb : ∀ s env, I s env → fin s = false → ∃ f env1, body env S = .ok (f, env1, S) ∧ (f = .nx ∨ f = .cont) ∧ I (step s) env1 ∧ m (step s) < m s) :
    ∀ n s env, I s env → m s < n → ∃ env1 k, whileL cond body n env S = .ok (.ret (v (Nat.repeat step k s)), env1, S) ∧ fin (Nat.repeat step k s) = true ∧ k + m (Nat.repeat step k s) ≤ m s
  | 0, _, _, _, h => absurd h (Nat.not_lt_zero _)
  | n + 1, s, env, h, hm => by
    rw [while_step, hc s env h, ok_bind]
    cases hg : fin s with
    | true =>
      obtain ⟨env1, h1⟩ := hr s env h hg
      exact ⟨env1, 0, by simp [h1, Nat.repeat], hg, by simp [Nat.repeat]⟩
    | false =>
      obtain ⟨f, env1, h1, h2, h3, h4⟩ := hb s env h hg
      obtain ⟨env2, k, h5, h6, h7⟩ := while_ret I m fin step v hc hr hb n (step s) env1 h3 (by omega)
      have hk : Nat.repeat step k (step s) = Nat.repeat step (k + 1) s := by
        clear h5 h6 h7
        induction k with
        | zero => rfl
        | succ k ih => show step (Nat.repeat step k (step s)) = step (Nat.repeat step (k + 1) s); rw [ih]
      rw [hk] at h5 h6 h7
      refine ⟨env2, k + 1, ?_, h6, by omega⟩
      simp only [if_true, h1, ok_bind]
      rcases h2 with rfl | rfl <;> exact h5
theorem fold_repeat {α β : Type} (g : α → α) : ∀ (l : List β) (a : α), l.foldl (fun a _ => g a) a = Nat.repeat g l.length a
  | [], a => rfl
  | x :: l, a => by
    rw [List.foldl_cons, fold_repeat g l, List.length_cons]
    generalize l.length = n
    induction n with
    | zero => rfl
    | succ n ih => show g (Nat.repeat g n (g a)) = g (Nat.repeat g (n + 1) a); rw [ih]
/-! ### defs that many laws have -/
section
variable {tab : List FC} {gl : Nat → Option PV} {W f : Nat} {S : Store}
def cPick (fn : Nat) : FC := ⟨2, 2, [(.ret (.idx (.slot 1) (.call fn [(.slot 0), (.bi .len [(.slot 1)])])))]⟩
/-- one of a list is drawn -/
theorem pick_l {fn : Nat} (h : tab[f]? = some (cPick fn)) (hn : tab[fn]? = some cNext) {k : Nat} (hS : Wst S) {α : Type} (g : α → PV) (hg : ∀ x, (g x).cb 1 = true) {l : List α} (h0 : l ≠ []) (hl : l.length ≤ 16777216) :
    ∃ x S', x ∈ l ∧ callAt tab gl W (k + 2) f [.cel 0, .lst (l.map g)] S = .ok (g x, S') ∧ Wst S' := by
  have hp : 0 < l.length := List.length_pos_iff.2 h0
  obtain ⟨i, S1, h1, h2, h3, h4⟩ := next_ok (tab := tab) (gl := gl) (W := W) (f := fn) hn (k := k) hS (m := (l.length : Int)) (by omega)
  have hi : i.toNat < l.length := by omega
  refine ⟨l[i.toNat], S1, List.getElem_mem hi, ?_, h4⟩
  have e1 : atL (l.map g) i = some (g l[i.toNat]) := by
    rw [at_nat' h2 (by rwa [List.length_map]), List.getElem_map]
  rw [cPick] at h
  rw [call_lit h]
  simp [List.replicate, h1, e1, small_of h2 (by omega : i ≤ 16777216)]
  rw [hS.len]
  exact h4.fin (hg _) _
theorem pick_t {fn : Nat} (h : tab[f]? = some (cPick fn)) (hn : tab[fn]? = some cNext) {k : Nat} (hS : Wst S) {α : Type} (g : α → PV) (hg : ∀ x, (g x).cb 1 = true) {l : List α} (h0 : l ≠ []) (hl : l.length ≤ 16777216) :
    ∃ x S', x ∈ l ∧ callAt tab gl W (k + 2) f [.cel 0, .tup (l.map g)] S = .ok (g x, S') ∧ Wst S' := by
  have hp : 0 < l.length := List.length_pos_iff.2 h0
  obtain ⟨i, S1, h1, h2, h3, h4⟩ := next_ok (tab := tab) (gl := gl) (W := W) (f := fn) hn (k := k) hS (m := (l.length : Int)) (by omega)
  have hi : i.toNat < l.length := by omega
  refine ⟨l[i.toNat], S1, List.getElem_mem hi, ?_, h4⟩
  have e1 : atL (l.map g) i = some (g l[i.toNat]) := by
    rw [at_nat' h2 (by rwa [List.length_map]), List.getElem_map]
  rw [cPick] at h
  rw [call_lit h]
  simp [List.replicate, h1, e1, small_of h2 (by omega : i ≤ 16777216)]
  rw [hS.len]
  exact h4.fin (hg _) _
def cIsBit : FC := ⟨2, 2, [(.ret (.or [(.and [(.slot 1), (.cmp .is (.slot 0) (.bl true))]), (.and [(.not (.slot 1)), (.cmp .is (.slot 0) (.bl false))])]))]⟩
theorem isbit_ok (h : tab[f]? = some cIsBit) {k : Nat} (hS : Sok S) (b : Bool) : callAt tab gl W (k + 1) f [.bl b, .bl b] S = .ok (.bl true, S) := by
  rw [cIsBit] at h
  rw [call_lit h]
  cases b <;> simp [List.replicate, isE, hS.fin]
/-! names -/
def letters : List Nat := [97, 98, 99, 100, 101, 102, 103, 104, 105, 106, 107, 108, 109, 110, 111, 112, 113, 114, 115, 116, 117, 118, 119, 120, 121, 122]
def nmS (s : List Nat) : Bool := !s.isEmpty && s.all fun c => decide (c ∈ letters)
def nmV : PV → Bool
  | .str s => nmS s
  | _ => false
def cIsName : FC := ⟨1, 2, [(.ret (.and [(.isi .str (.slot 0)), (.cmp .ne (.slot 0) (.str [])), (.bi .all [(.comp [.mk (.nm 1) (.val (.slot 0)) []] (.cmp .mem (.slot 1) (.gl 0)))])]))]⟩
theorem isname_str (h : tab[f]? = some cIsName) (hg : gl 0 = some (.str letters)) {k : Nat} (hS : Sok S) (s : List Nat) (hl : s.length ≤ 1000) : callAt tab gl W (k + 1) f [.str s] S = .ok (.bl (nmS s), S) := by
  rw [cIsName] at h
  rw [call_lit h]
  have e1 : walk (.str s) = .ok (s.map fun c => .str [c]) := rfl
  have e2 (c : Nat) : memE (.str [c]) (.str letters) = .ok (decide (c ∈ letters)) := rfl
  have e3 : isTy .str (.str s) = true := rfl
  have e4 : isCel (.str s) = false := rfl
  have e5 : isScr (.str s) = false := rfl
  cases s with
  | nil => simp [List.replicate, hS.fin, nmS, e3, e4, e5]
  | cons c s =>
    simp only [List.length_cons] at hl
    have e6 : eachL (part1 (callAt tab gl W k) gl [some (.str (c :: s)), none] (.nm 1) [] (.cmp .mem (.slot 1) (.gl 0))) ((c :: s).map fun c => .str [c]) S = .ok (((c :: s).map fun c => decide (c ∈ letters)).map .bl, S) :=
      each_map fun c _ => by simp [part1, hg, e2]
    have e7 := all_ok ((c :: s).map fun c => decide (c ∈ letters))
    simp only [List.map_cons] at e1 e6 e7
    simp (disch := first | omega | (simp; done) | (simp; omega) | fail "no") [-List.map_map, -bi_all, fits_len, List.replicate, hS.fin, e1, e3, e4, e5, e6, e7]
    simp [nmS]
theorem isname_other (h : tab[f]? = some cIsName) {k : Nat} (hS : Sok S) {v : PV} (h1 : isTy .str v = false) (h2 : isCel v = false) (h3 : isScr v = false) : callAt tab gl W (k + 1) f [v] S = .ok (.bl false, S) := by
  rw [cIsName] at h
  rw [call_lit h]
  simp [List.replicate, hS.fin, h1, h2, h3]
def cLawIsName : FC := ⟨1, 2, [(.ret (.and [(.isi .str (.slot 0)), (.cmp .ne (.slot 0) (.str [])), (.cmp .eq (.comp [.mk (.nm 1) (.val (.slot 0)) [(.or [(.cmp .lt (.slot 1) (.str [97])), (.cmp .gt (.slot 1) (.str [122]))])]] (.slot 1)) (.lst []))]))]⟩
theorem mem_letters (c : Nat) : c ∈ letters ↔ 97 ≤ c ∧ c ≤ 122 := by
  simp only [letters, List.mem_cons, List.not_mem_nil, or_false]
  omega
theorem lisname_str (h : tab[f]? = some cLawIsName) {k : Nat} (hS : Sok S) (s : List Nat) (hl : s.length ≤ 1000) : callAt tab gl W (k + 1) f [.str s] S = .ok (.bl (nmS s), S) := by
  rw [cLawIsName] at h
  rw [call_lit h]
  have e1 : walk (.str s) = .ok (s.map fun c => .str [c]) := rfl
  have e3 : isTy .str (.str s) = true := rfl
  have e4 : isCel (.str s) = false := rfl
  have e5 : isScr (.str s) = false := rfl
  cases s with
  | nil => simp [List.replicate, hS.fin, nmS, e3, e4, e5]
  | cons c s =>
    simp only [List.length_cons] at hl
    have e6 : eachL (part1 (callAt tab gl W k) gl [some (.str (c :: s)), none] (.nm 1) [(.or [(.cmp .lt (.slot 1) (.str [97])), (.cmp .gt (.slot 1) (.str [122]))])] (.slot 1)) ((c :: s).map fun c => .str [c]) S = .ok (((c :: s).filter fun c => !decide (c ∈ letters)).map fun c => .str [c], S) :=
      each_flt (p := fun c => !decide (c ∈ letters)) fun c _ => by
        have h1 : ltN [c] [97] = decide (c < 97) := by
          rw [ltN]; split
          · rename_i h; subst h; rfl
          · rfl
        have h2 : ltN [122] [c] = decide (122 < c) := by
          rw [ltN]; split
          · rename_i h; subst h; rfl
          · rfl
        by_cases c1 : c < 97
        · have c3 : ¬ (97 ≤ c ∧ c ≤ 122) := by omega
          simp [part1, h1, h2, mem_letters, c1, c3]
        · by_cases c2 : 122 < c
          · have c3 : ¬ (97 ≤ c ∧ c ≤ 122) := by omega
            simp [part1, h1, h2, mem_letters, c1, c2, c3]
          · have c3 : 97 ≤ c ∧ c ≤ 122 := by omega
            simp [part1, h1, h2, mem_letters, c1, c2, c3]
    have hfl := List.length_filter_le (fun c => !decide (c ∈ letters)) (c :: s)
    rw [List.length_cons] at hfl
    have e8 : eqE (.lst (((c :: s).filter fun c => !decide (c ∈ letters)).map fun c => .str [c])) (.lst []) = .ok (decide (((c :: s).filter fun c => !decide (c ∈ letters)) = [])) := by
      have := eq_lst (α := T) (by decide) (((c :: s).filter fun c => !decide (c ∈ letters)).map fun c => ⟨[c]⟩) []
      rw [List.map_map, List.map_nil] at this
      rw [show (((c :: s).filter fun c => !decide (c ∈ letters)).map fun c => PV.str [c]) = ((c :: s).filter fun c => !decide (c ∈ letters)).map ((e : T → PV) ∘ fun c => ⟨[c]⟩) from rfl, this]
      simp
    generalize hq : ((c :: s).filter fun c => !decide (c ∈ letters)) = q at e6 e8 hfl
    have hn : nmS (c :: s) = decide (q = []) := by
      rw [nmS, ← hq]
      refine Bool.eq_iff_iff.2 ?_
      simp [List.filter_eq_nil_iff]
    simp only [List.map_cons] at e1 e6
    simp (disch := first | omega | (simp; done) | (simp; omega) | fail "no") [-List.map_map, fits_len, List.replicate, hS.fin, e1, e3, e4, e5, e6, e8, hn]
theorem lisname_other (h : tab[f]? = some cLawIsName) {k : Nat} (hS : Sok S) {v : PV} (h1 : isTy .str v = false) (h2 : isCel v = false) (h3 : isScr v = false) : callAt tab gl W (k + 1) f [v] S = .ok (.bl false, S) := by
  rw [cLawIsName] at h
  rw [call_lit h]
  simp [List.replicate, hS.fin, h1, h2, h3]
/-! rows of names -/
def cRow (fn : Nat) : FC := ⟨1, 2, [(.ret (.and [(.isi .tuple (.slot 0)), (.bi .all [(.comp [.mk (.nm 1) (.val (.slot 0)) []] (.call fn [(.slot 1)]))])]))]⟩
theorem isrow_tup {fn k : Nat} (h : tab[f]? = some (cRow fn)) (hS : Sok S) {l : List PV} (hl : l.length ≤ 1000) (p : PV → Bool) (hp : ∀ v ∈ l, callAt tab gl W k fn [v] S = .ok (.bl (p v), S)) : callAt tab gl W (k + 1) f [.tup l] S = .ok (.bl (l.all p), S) := by
  rw [cRow] at h
  rw [call_lit h]
  have e3 : isTy .tuple (.tup l) = true := rfl
  have e4 : isCel (.tup l) = false := rfl
  have e5 : isScr (.tup l) = false := rfl
  have e6 : eachL (part1 (callAt tab gl W k) gl [some (.tup l), none] (.nm 1) [] (.call fn [.slot 1])) l S = .ok ((l.map p).map .bl, S) := by
    have := each_map (S := S) (f := part1 (callAt tab gl W k) gl [some (.tup l), none] (.nm 1) [] (.call fn [.slot 1])) (en := fun v : PV => v) (en' := .bl) (g := p) (l := l) fun v hv => by simp [part1, hp v hv]
    rwa [List.map_id'] at this
  have e7 := all_ok (l.map p)
  simp (disch := first | omega | (simp; done) | (simp; omega) | fail "no") [-List.map_map, -bi_all, fits_len, List.replicate, hS.fin, e3, e4, e5, e6, e7]
theorem isrow_other {fn k : Nat} (h : tab[f]? = some (cRow fn)) (hS : Sok S) {v : PV} (h1 : isTy .tuple v = false) (h2 : isCel v = false) (h3 : isScr v = false) : callAt tab gl W (k + 1) f [v] S = .ok (.bl false, S) := by
  rw [cRow] at h
  rw [call_lit h]
  simp [List.replicate, hS.fin, h1, h2, h3]
/-! ascending -/
def cAsc : FC := ⟨1, 2, [(.ret (.bi .all [(.comp [.mk (.nm 1) (.rng [(.bin .sub (.bi .len [(.slot 0)]) (.int 1))]) []] (.cmp .lt (.idx (.slot 0) (.slot 1)) (.idx (.slot 0) (.bin .add (.slot 1) (.int 1)))))]))]⟩
section
variable {α : Type} [DecidableEq α] [Enc α]
theorem asc_iff : ∀ l : List α, Asc l ↔ ∀ i, (h : i + 1 < l.length) → Enc.lt l[i] l[i + 1] = true
  | [] => ⟨fun _ i h => by simp at h, fun _ => List.Pairwise.nil⟩
  | [x] => ⟨fun _ i h => by simp at h, fun _ => List.pairwise_singleton _ _⟩
  | x :: y :: l => by
    have ih := asc_iff (y :: l)
    constructor
    · intro h i hi
      cases i with
      | zero => exact (List.pairwise_cons.1 h).1 y List.mem_cons_self
      | succ i => exact ih.1 (List.pairwise_cons.1 h).2 i (by simpa using hi)
    · intro h
      have h1 : Enc.lt x y = true := h 0 (by simp)
      have h2 : Asc (y :: l) := ih.2 fun i hi => h (i + 1) (by simpa using hi)
      refine List.pairwise_cons.2 ⟨fun z hz => ?_, h2⟩
      rcases List.mem_cons.1 hz with rfl | hz
      · exact h1
      · exact Enc.tr _ _ _ h1 ((List.pairwise_cons.1 h2).1 z hz)
theorem isasc_t (h : tab[f]? = some cAsc) {k : Nat} (hS : Sok S) (h60 : Enc.dep α ≤ 60) (l : List α) (hl : l.length ≤ 1000) : callAt tab gl W (k + 1) f [.tup (l.map e)] S = .ok (.bl (decide (Asc l)), S) := by
  rw [cAsc] at h
  rw [call_lit h]
  have hr : rangeL 0 ((l.length : Int) - 1) 1 = (List.range (l.length - 1)).map fun (k : Nat) => PV.int k := by
    rw [rangeL_up]; congr 2; omega
  have hsm : small62 ((l.length : Int) - 1) = true := decide_eq_true ⟨by omega, by omega⟩
  have e6 : eachL (part1 (callAt tab gl W k) gl [some (.tup (l.map e)), none] (.nm 1) [] (.cmp .lt (.idx (.slot 0) (.slot 1)) (.idx (.slot 0) (.bin .add (.slot 1) (.int 1))))) ((List.range (l.length - 1)).map fun (k : Nat) => PV.int k) S = .ok (((List.range (l.length - 1)).map fun i => if h : i + 1 < l.length then Enc.lt l[i] l[i + 1] else true).map .bl, S) :=
    each_map fun i hi => by
      have hi := List.mem_range.1 hi
      have h1 : i + 1 < l.length := by omega
      have a1 : atL (l.map e) (i : Int) = some (e l[i]) := at_map e (by omega)
      have a2 : atL (l.map e) ((i : Int) + 1) = some (e l[i + 1]) := at_map e h1
      have s1 : small62 (i : Int) = true := small_nat (by omega)
      have s2 : small62 ((i : Int) + 1) = true := small_of (by omega) (by omega)
      simp [part1, a1, a2, s1, s2, lt_e h60, h1]
  have e7 := all_ok ((List.range (l.length - 1)).map fun i => if h : i + 1 < l.length then Enc.lt l[i] l[i + 1] else true)
  have e8 : (((List.range (l.length - 1)).map fun i => if h : i + 1 < l.length then Enc.lt l[i] l[i + 1] else true).all id) = decide (Asc l) := by
    refine Bool.eq_iff_iff.2 ?_
    rw [decide_eq_true_eq, asc_iff, List.all_map, List.all_eq_true]
    constructor
    · intro h i hi
      have := h i (List.mem_range.2 (by omega))
      simpa [hi] using this
    · intro h i hi
      have hi := List.mem_range.1 hi
      have h1 : i + 1 < l.length := by omega
      simpa [h1] using h i h1
  rw [e8] at e7
  simp (disch := first | omega | (simp; done) | (simp; omega) | fail "no") [-List.map_map, -bi_all, fits_len, List.replicate, hS.fin, hr, hsm, e6, e7]
  have h9 : ((l.length : Int) - 1 ≤ 16777216) := by omega
  simp (disch := first | omega | (simp; done) | (simp; omega) | fail "no") [-List.map_map, -bi_all, fits_len, List.replicate, hS.fin, hr, hsm, e6, e7, h9]
end
/-! fractions -/
def cCommon : FC := ⟨2, 2, [(.whil (.cmp .ne (.slot 1) (.int 0)) [(.parI [0, 1] [(.slot 1), (.bin .mod (.slot 0) (.slot 1))])]), (.ret (.bi .abs [(.slot 0)]))]⟩
theorem common_ok (h : tab[f]? = some cCommon) {k : Nat} (hS : Sok S) (a b : Nat) (hb : b + 1 < W) : callAt tab gl W (k + 1) f [.int a, .int b] S = .ok (.int (Nat.gcd a b), S) := by
  rw [cCommon] at h
  rw [call_lit h]
  have key := while_fold (S := S) (cond := condW (callAt tab gl W k) gl (.cmp .ne (.slot 1) (.int 0))) (body := bodyB (callAt tab gl W k) gl W [(.parI [0, 1] [(.slot 1), (.bin .mod (.slot 0) (.slot 1))])])
    (I := fun (s : Nat × Nat) env => Nat.gcd s.1 s.2 = Nat.gcd a b ∧ env = [.fz (.int s.1), .fz (.int s.2)]) (m := fun s => s.2) (go := fun s => !decide (s.2 = 0)) (step := fun s => (s.2, s.1 % s.2)) ?_ ?_ W (a, b) _ ⟨rfl, rfl⟩ (by show b < W; omega)
  · obtain ⟨env1, s1, n, h1, ⟨h2, rfl⟩, hg, _⟩ := key
    have hg : s1.2 = 0 := by simpa using hg
    rw [hg, Nat.gcd_zero_right] at h2
    have h3 : ¬ ((s1.1 : Int) < 0) := by omega
    simp [List.replicate, h1, hS.fin, h3, h2]
    intro h; omega
  · rintro s env ⟨_, rfl⟩
    have h1 : ((s.2 : Int) == 0) = decide (s.2 = 0) := by
      refine Bool.eq_iff_iff.2 ?_
      simp
    simp [condW, h1]
  · rintro s env ⟨h1, rfl⟩ hg
    have hg : s.2 ≠ 0 := by simpa using hg
    refine ⟨.nx, [.fz (.int s.2), .fz (.int ((s.1 % s.2 : Nat) : Int))], ?_, Or.inl rfl, ⟨?_, rfl⟩, Nat.mod_lt _ (by omega)⟩
    · have h2 : 0 < s.2 := by omega
      simp [setI, h2]
    · rw [← h1, Nat.gcd_comm s.1 s.2, Nat.gcd_rec s.2 s.1, Nat.gcd_comm]
def cFraction (fn : Nat) : FC := ⟨2, 3, [(.set 2 (.call fn [(.slot 0), (.slot 1)])), (.ifs (.cmp .lt (.slot 1) (.int 0)) [(.set 2 (.neg (.slot 2)))] []), (.ret (.tup [(.bin .fdiv (.slot 0) (.slot 2)), (.bin .fdiv (.slot 1) (.slot 2))]))]⟩
theorem fraction_ok {fn : Nat} (h : tab[f]? = some (cFraction fn)) (hc : tab[fn]? = some cCommon) {k : Nat} (hS : Sok S) (a b : Nat) (hb : b + 1 < W) (h0 : 0 < b) (hbb : b < 1000000) :
    callAt tab gl W (k + 2) f [.int a, .int b] S = .ok (.tup [.int ((a / Nat.gcd a b : Nat) : Int), .int ((b / Nat.gcd a b : Nat) : Int)], S) := by
  rw [cFraction] at h
  rw [call_lit h]
  have h1 := common_ok (gl := gl) hc (k := k) hS a b hb
  have hg : 0 < Nat.gcd a b := Nat.gcd_pos_of_pos_right _ h0
  have hg2 : Nat.gcd a b ≤ b := Nat.le_of_dvd h0 (Nat.gcd_dvd_right a b)
  have h2 : ¬ ((b : Int) < 0) := by omega
  have h3 : (0 : Int) < (Nat.gcd a b : Int) ∧ (Nat.gcd a b : Int) < 1073741824 := ⟨by omega, by omega⟩
  simp [List.replicate, h1, hS.fin, h2, h3, h0]
end
end Ev
end

section
set_option Elab.async false
set_option maxRecDepth 100000
set_option maxHeartbeats 0
namespace K45
open Ev
/-! is_name(thing): 0 thing, 1 sign -/
abbrev B_is_name : List CS := [(.ret (.and [(.isi .str (.slot 0)), (.cmp .ne (.slot 0) (.str [])), (.bi .all [(.comp [.mk (.nm 1) (.val (.slot 0)) []] (.cmp .mem (.slot 1) (.gl 0)))])]))]
def c_is_name : FC := ⟨1, 2, B_is_name⟩
/-! is_ascending(things): 0 things, 1 k -/
abbrev B_is_ascending : List CS := [(.ret (.bi .all [(.comp [.mk (.nm 1) (.rng [(.bin .sub (.bi .len [(.slot 0)]) (.int 1))]) []] (.cmp .lt (.idx (.slot 0) (.slot 1)) (.idx (.slot 0) (.bin .add (.slot 1) (.int 1)))))]))]
def c_is_ascending : FC := ⟨1, 2, B_is_ascending⟩
/-! set_of(things): 0 things -/
abbrev B_set_of : List CS := [(.ret (.bi .tuple [(.sset (.slot 0))]))]
def c_set_of : FC := ⟨1, 1, B_set_of⟩
/-! sets_of(things, many): 0 things, 1 many, 2 found, 3 _, 4 row, 5 one -/
abbrev L_sets_of_1 : List CS := [(.set 2 (.comp [.mk (.nm 4) (.val (.slot 2)) [], .mk (.nm 5) (.val (.slot 0)) [(.or [(.cmp .eq (.slot 4) (.tup [])), (.cmp .gt (.slot 5) (.idx (.slot 4) (.neg (.int 1))))])]] (.bin .add (.slot 4) (.tup [(.slot 5)]))))]
abbrev B_sets_of : List CS := [(.set 2 (.lst [(.tup [])])),
 (.for (.nm 3) (.rng [(.slot 1)]) L_sets_of_1),
 (.ret (.slot 2))]
def c_sets_of : FC := ⟨2, 6, B_sets_of⟩
/-! all_sets(things): 0 things, 1 found, 2 many -/
abbrev L_all_sets_1 : List CS := [(.mut .extend 1 (.call 3 [(.slot 0), (.slot 2)]))]
abbrev B_all_sets : List CS := [(.set 1 (.lst [])),
 (.for (.nm 2) (.rng [(.bin .add (.bi .len [(.slot 0)]) (.int 1))]) L_all_sets_1),
 (.ret (.slot 1))]
def c_all_sets : FC := ⟨1, 3, B_all_sets⟩
/-! common(a, b): 0 a, 1 b -/
abbrev L_common_1 : List CS := [(.parI [0, 1] [(.slot 1), (.bin .mod (.slot 0) (.slot 1))])]
abbrev B_common : List CS := [(.whil (.cmp .ne (.slot 1) (.int 0)) L_common_1),
 (.ret (.bi .abs [(.slot 0)]))]
def c_common : FC := ⟨2, 2, B_common⟩
/-! fraction(a, b): 0 a, 1 b, 2 by -/
abbrev B_fraction : List CS := [(.set 2 (.call 5 [(.slot 0), (.slot 1)])),
 (.ifs (.cmp .lt (.slot 1) (.int 0)) [(.set 2 (.neg (.slot 2)))]
  []),
 (.ret (.tup [(.bin .fdiv (.slot 0) (.slot 2)), (.bin .fdiv (.slot 1) (.slot 2))]))]
def c_fraction : FC := ⟨2, 3, B_fraction⟩
/-! is_less(one, other): 0 one, 1 other -/
abbrev B_is_less : List CS := [(.ret (.cmp .lt (.bin .mul (.idx (.slot 0) (.int 0)) (.idx (.slot 1) (.int 1))) (.bin .mul (.idx (.slot 1) (.int 0)) (.idx (.slot 0) (.int 1)))))]
def c_is_less : FC := ⟨2, 2, B_is_less⟩
/-! is_word_row(thing): 0 thing, 1 word -/
abbrev B_is_word_row : List CS := [(.ret (.and [(.isi .tuple (.slot 0)), (.bi .all [(.comp [.mk (.nm 1) (.val (.slot 0)) []] (.call 0 [(.slot 1)]))])]))]
def c_is_word_row : FC := ⟨1, 2, B_is_word_row⟩
/-! is_word_set(thing): 0 thing -/
abbrev B_is_word_set : List CS := [(.ret (.and [(.call 8 [(.slot 0)]), (.call 1 [(.slot 0)])]))]
def c_is_word_set : FC := ⟨1, 1, B_is_word_set⟩
/-! uses(book, word): 0 book, 1 word, 2 sense, 3 own -/
abbrev B_uses : List CS := [(.ret (.call 2 [(.comp [.mk (.nm 2) (.val (.idx (.slot 0) (.slot 1))) [], .mk (.nm 3) (.val (.slot 2)) []] (.slot 3))]))]
def c_uses : FC := ⟨2, 4, B_uses⟩
/-! closed_choice(book, words): 0 book, 1 words, 2 found, 3 at, 4 own -/
abbrev L_closed_choice_1 : List CS := [(.mut .extend 2 (.comp [.mk (.nm 4) (.val (.call 10 [(.slot 0), (.idx (.slot 2) (.slot 3))])) [(.and [(.cmp .mem (.slot 4) (.slot 0)), (.cmp .nmem (.slot 4) (.slot 2))])]] (.slot 4))),
 (.aug 3 .add (.int 1))]
abbrev B_closed_choice : List CS := [(.par [2, 3] [(.bi .list [(.slot 1)]), (.int 0)]),
 (.whil (.cmp .lt (.slot 3) (.bi .len [(.slot 2)])) L_closed_choice_1),
 (.ret (.bi .tuple [(.bi .sorted [(.slot 2)])]))]
def c_closed_choice : FC := ⟨2, 5, B_closed_choice⟩
/-! is_choice(book, words): 0 book, 1 words, 2 word -/
abbrev B_is_choice : List CS := [(.ifs (.or [(.not (.call 9 [(.slot 1)])), (.not (.bi .all [(.comp [.mk (.nm 2) (.val (.slot 1)) []] (.cmp .mem (.slot 2) (.slot 0)))]))]) [(.ret (.bl false))]
  []),
 (.ret (.cmp .eq (.call 11 [(.slot 0), (.slot 1)]) (.slot 1)))]
def c_is_choice : FC := ⟨2, 3, B_is_choice⟩
/-! lines_of_words(worths, words): 0 worths, 1 words, 2 word -/
abbrev B_lines_of_words : List CS := [(.ret (.bi .sum [(.comp [.mk (.nm 2) (.val (.slot 1)) []] (.idx (.idx (.slot 0) (.slot 2)) (.int 0)))]))]
def c_lines_of_words : FC := ⟨2, 3, B_lines_of_words⟩
/-! worth_of_words(worths, words): 0 worths, 1 words, 2 word -/
abbrev B_worth_of_words : List CS := [(.ret (.bi .sum [(.comp [.mk (.nm 2) (.val (.slot 1)) []] (.idx (.idx (.slot 0) (.slot 2)) (.int 1)))]))]
def c_worth_of_words : FC := ⟨2, 3, B_worth_of_words⟩
/-! choices_within(book, worths, most): 0 book, 1 worths, 2 most, 3 sets, 4 words -/
abbrev B_choices_within : List CS := [(.set 3 (.comp [.mk (.nm 4) (.val (.call 4 [(.bi .tuple [(.bi .sorted [(.slot 0)])])])) [(.cmp .eq (.call 11 [(.slot 0), (.slot 4)]) (.slot 4))]] (.slot 4))),
 (.ret (.comp [.mk (.nm 4) (.val (.slot 3)) [(.cmp .le (.call 13 [(.slot 1), (.slot 4)]) (.slot 2))]] (.slot 4)))]
def c_choices_within : FC := ⟨3, 5, B_choices_within⟩
/-! best_choice(book, worths, most): 0 book, 1 worths, 2 most, 3 rows, 4 words -/
abbrev B_best_choice : List CS := [(.set 3 (.comp [.mk (.nm 4) (.val (.call 15 [(.slot 0), (.slot 1), (.slot 2)])) []] (.tup [(.neg (.call 14 [(.slot 1), (.slot 4)])), (.bi .len [(.slot 4)]), (.slot 4)]))),
 (.ret (.tup [(.neg (.idx (.bi .min [(.slot 3)]) (.int 0))), (.idx (.bi .min [(.slot 3)]) (.int 2))]))]
def c_best_choice : FC := ⟨3, 5, B_best_choice⟩
/-! best_by_lines(book, worths, most): 0 book, 1 worths, 2 most, 3 lines -/
abbrev B_best_by_lines : List CS := [(.ret (.bi .tuple [(.comp [.mk (.nm 3) (.rng [(.bin .add (.slot 2) (.int 1))]) []] (.idx (.call 16 [(.slot 0), (.slot 1), (.slot 3)]) (.int 0)))]))]
def c_best_by_lines : FC := ⟨3, 4, B_best_by_lines⟩
/-! price_of_word(book, worths, word): 0 book, 1 worths, 2 word -/
abbrev B_price_of_word : List CS := [(.ret (.call 13 [(.slot 1), (.call 11 [(.slot 0), (.tup [(.slot 2)])])]))]
def c_price_of_word : FC := ⟨3, 3, B_price_of_word⟩
/-! must_go(book, worths, most, word): 0 book, 1 worths, 2 most, 3 word -/
abbrev B_must_go : List CS := [(.ret (.cmp .gt (.call 18 [(.slot 0), (.slot 1), (.slot 3)]) (.slot 2)))]
def c_must_go : FC := ⟨4, 4, B_must_go⟩
/-! lots_of_choice(book): 0 book, 1 word -/
abbrev B_lots_of_choice : List CS := [(.ret (.call 2 [(.comp [.mk (.nm 1) (.val (.slot 0)) []] (.call 11 [(.slot 0), (.tup [(.slot 1)])]))]))]
def c_lots_of_choice : FC := ⟨1, 2, B_lots_of_choice⟩
/-! next_word(book, worths, most, words): 0 book, 1 worths, 2 most, 3 words, 4 best, 5 word, 6 more, 7 told, 8 own -/
abbrev L_next_word_1 : List CS := [(.set 6 (.bi .tuple [(.comp [.mk (.nm 8) (.val (.call 11 [(.slot 0), (.tup [(.slot 5)])])) [(.cmp .nmem (.slot 8) (.slot 3))]] (.slot 8))])),
 (.ifs (.and [(.cmp .nmem (.slot 5) (.slot 3)), (.cmp .le (.call 13 [(.slot 1), (.bin .add (.slot 3) (.slot 6))]) (.slot 2))]) [(.set 7 (.call 6 [(.call 14 [(.slot 1), (.slot 6)]), (.call 13 [(.slot 1), (.slot 6)])])),
  (.ifs (.or [(.cmp .is (.slot 4) .non), (.call 7 [(.idx (.slot 4) (.int 0)), (.slot 7)])]) [(.set 4 (.tup [(.slot 7), (.slot 6)]))]
   [])]
  [])]
abbrev B_next_word : List CS := [(.set 4 .non),
 (.for (.nm 5) (.val (.bi .sorted [(.slot 0)])) L_next_word_1),
 (.ret (.ite (.cmp .isn (.slot 4) .non) (.idx (.slot 4) (.int 1)) .non))]
def c_next_word : FC := ⟨4, 9, B_next_word⟩
/-! grown_choice(book, worths, most): 0 book, 1 worths, 2 most, 3 found, 4 more -/
abbrev L_grown_choice_1 : List CS := [(.set 4 (.call 21 [(.slot 0), (.slot 1), (.slot 2), (.slot 3)])),
 (.ifs (.cmp .is (.slot 4) .non) [(.ret (.slot 3))]
  []),
 (.set 3 (.call 2 [(.bin .add (.slot 3) (.slot 4))]))]
abbrev B_grown_choice : List CS := [(.set 3 (.tup [])),
 (.whil (.bl true) L_grown_choice_1)]
def c_grown_choice : FC := ⟨3, 5, B_grown_choice⟩
/-! _law_draws(script, many): 0 script, 1 many, 2 draws, 3 mixed, 4 k, 5 cell, 6 rest, 7 turn -/
abbrev L_law_draws_3 : List CS := [(.set 3 (.bin .mod (.bi .int [(.bin .add (.bin .add (.bin .mul (.slot 3) (.int 16807)) (.slot 4)) (.int 1))]) (.int 65537))),
 (.mut .append 2 (.bin .mod (.bi .int [(.slot 3)]) (.int 997)))]
abbrev L_law_draws_2 : List CS := [(.ifs (.cmp .gt (.slot 6) (.int 0)) [(.mut .append 2 (.bin .mod (.bi .int [(.slot 6)]) (.int 997))),
  (.set 6 (.bin .fdiv (.slot 6) (.int 997)))]
  [])]
abbrev L_law_draws_1 : List CS := [(.set 5 (.bi .abs [(.bi .int [(.idx (.slot 0) (.slot 4))])])),
 (.set 3 (.bin .mod (.bi .int [(.bin .add (.bin .add (.bin .mul (.slot 3) (.int 48271)) (.bin .mod (.slot 5) (.int 1000003))) (.slot 4))]) (.int 65537))),
 (.set 6 (.int 0)),
 (.ifs (.cmp .ge (.slot 5) (.bin .pow (.int 10) (.int 18))) [(.set 6 (.slot 5))]
  [(.mut .append 2 (.bin .mod (.bi .int [(.slot 5)]) (.int 997))),
  (.mut .append 2 (.bin .mod (.bin .mod (.bi .int [(.bin .add (.bin .mul (.slot 3) (.int 69621)) (.int 5))]) (.int 65521)) (.int 997)))]),
 (.for (.nm 7) (.rng [(.int 60)]) L_law_draws_2)]
abbrev B_law_draws : List CS := [(.set 2 (.lst [])),
 (.set 3 (.int 7)),
 (.for (.nm 4) (.rng [(.bi .len [(.slot 0)])]) L_law_draws_1),
 (.for (.nm 4) (.rng [(.slot 1)]) L_law_draws_3),
 (.ret (.slc (.slot 2) none (some (.slot 1))))]
def c_law_draws : FC := ⟨2, 8, B_law_draws⟩
/-! _law_next(w, many): 0 w, 1 many -/
abbrev B_law_next : List CS := [(.augi 0 (.str [97, 116]) .add (.int 1)),
 (.ifs (.cmp .gt (.idx (.slot 0) (.str [97, 116])) (.bi .len [(.idx (.slot 0) (.str [100, 114, 97, 119, 115]))])) [(.ret (.int 0))]
  []),
 (.ret (.bin .mod (.bi .int [(.idx (.idx (.slot 0) (.str [100, 114, 97, 119, 115])) (.bin .sub (.idx (.slot 0) (.str [97, 116])) (.int 1)))]) (.slot 1)))]
def c_law_next : FC := ⟨2, 2, B_law_next⟩
/-! _law_pick(w, rows): 0 w, 1 rows -/
abbrev B_law_pick : List CS := [(.ret (.idx (.slot 1) (.call 24 [(.slot 0), (.bi .len [(.slot 1)])])))]
def c_law_pick : FC := ⟨2, 2, B_law_pick⟩
/-! _law_is_bit(said, due): 0 said, 1 due -/
abbrev B_law_is_bit : List CS := [(.ret (.or [(.and [(.slot 1), (.cmp .is (.slot 0) (.bl true))]), (.and [(.not (.slot 1)), (.cmp .is (.slot 0) (.bl false))])]))]
def c_law_is_bit : FC := ⟨2, 2, B_law_is_bit⟩
/-! _law_is_name(thing): 0 thing, 1 sign -/
abbrev B_law_is_name : List CS := [(.ret (.and [(.isi .str (.slot 0)), (.cmp .ne (.slot 0) (.str [])), (.cmp .eq (.comp [.mk (.nm 1) (.val (.slot 0)) [(.or [(.cmp .lt (.slot 1) (.str [97])), (.cmp .gt (.slot 1) (.str [122]))])]] (.slot 1)) (.lst []))]))]
def c_law_is_name : FC := ⟨1, 2, B_law_is_name⟩
/-! _law_book(w, most, senses, free): 0 w, 1 most, 2 senses, 3 free, 4 words, 5 found, 6 word, 7 rows, 8 k, 9 sense, 10 n -/
abbrev L_law_book_2 : List CS := [(.set 9 (.bi .tuple [(.comp [.mk (.nm 10) (.rng [(.bin .add (.int 1) (.call 24 [(.slot 0), (.int 3)]))]) []] (.call 25 [(.slot 0), (.bin .add (.slot 4) (.bi .list [(.slot 3)]))]))])),
 (.set 7 (.ite (.cmp .nmem (.slot 9) (.slot 7)) (.bin .add (.slot 7) (.lst [(.slot 9)])) (.slot 7)))]
abbrev L_law_book_1 : List CS := [(.set 7 (.lst [])),
 (.for (.nm 8) (.rng [(.bin .add (.int 1) (.call 24 [(.slot 0), (.slot 2)]))]) L_law_book_2),
 (.put 5 (.slot 6) (.bi .tuple [(.slot 7)]))]
abbrev B_law_book : List CS := [(.set 4 (.slc (.lst [(.str [97, 110, 116]), (.str [98, 101, 101]), (.str [99, 97, 116]), (.str [100, 111, 103]), (.str [101, 108, 107]), (.str [102, 111, 120])]) none (some (.call 24 [(.slot 0), (.bin .add (.slot 1) (.int 1))])))),
 (.set 5 (.dic [])),
 (.for (.nm 6) (.val (.slot 4)) L_law_book_1),
 (.ret (.slot 5))]
def c_law_book : FC := ⟨4, 11, B_law_book⟩
/-! _law_used(book, word): 0 book, 1 word, 2 found, 3 sense -/
abbrev L_law_used_1 : List CS := [(.set 2 (.bin .add (.slot 2) (.bi .list [(.slot 3)])))]
abbrev B_law_used : List CS := [(.set 2 (.lst [])),
 (.for (.nm 3) (.val (.idx (.slot 0) (.slot 1))) L_law_used_1),
 (.ret (.sset (.slot 2)))]
def c_law_used : FC := ⟨2, 4, B_law_used⟩
/-! _law_sets(things): 0 things, 1 k, 2 found, 3 layer, 4 longer, 5 row, 6 thing -/
abbrev L_law_sets_2 : List CS := [(.set 4 (.bin .add (.slot 4) (.comp [.mk (.nm 6) (.val (.slot 0)) [(.or [(.cmp .eq (.slot 5) (.tup [])), (.cmp .gt (.slot 6) (.idx (.slot 5) (.neg (.int 1))))])]] (.bin .add (.slot 5) (.tup [(.slot 6)])))))]
abbrev L_law_sets_1 : List CS := [(.set 4 (.lst [])),
 (.for (.nm 5) (.val (.slot 3)) L_law_sets_2),
 (.set 3 (.slot 4)),
 (.set 2 (.bin .add (.slot 2) (.slot 3)))]
abbrev B_law_sets : List CS := [(.par [2, 3] [(.lst [(.tup [])]), (.lst [(.tup [])])]),
 (.for (.nm 1) (.rng [(.bi .len [(.slot 0)])]) L_law_sets_1),
 (.ret (.slot 2))]
def c_law_sets : FC := ⟨1, 7, B_law_sets⟩
/-! _law_closed(book, words): 0 book, 1 words, 2 found, 3 turn, 4 word, 5 own -/
abbrev L_law_closed_2 : List CS := [(.set 2 (.sset (.bin .add (.slot 2) (.comp [.mk (.nm 5) (.val (.call 29 [(.slot 0), (.slot 4)])) [(.cmp .mem (.slot 5) (.slot 0))]] (.slot 5)))))]
abbrev L_law_closed_1 : List CS := [(.for (.nm 4) (.val (.slot 2)) L_law_closed_2)]
abbrev B_law_closed : List CS := [(.set 2 (.sset (.slot 1))),
 (.for (.nm 3) (.rng [(.bi .len [(.slot 0)])]) L_law_closed_1),
 (.ret (.bi .tuple [(.slot 2)]))]
def c_law_closed : FC := ⟨2, 6, B_law_closed⟩
/-! law(script): 0 script, 1 w, 2 turn, 3 book, 4 worths, 5 every, 6 some, 7 able, 8 rows, 9 lines, 10 lots, 11 word, 12 now, 13 step, 14 thing, 15 most, 16 bests, 17 lot, 18 price, 19 best, 20 right, 21 own, 22 more, 23 worth, 24 row -/
abbrev L_law_6 : List CS := [(.set 20 (.and [(.isi .tuple (.slot 14)), (.cmp .eq (.comp [.mk (.nm 11) (.val (.slot 14)) [(.or [(.not (.call 27 [(.slot 11)])), (.cmp .nmem (.slot 11) (.slot 3))])]] (.slot 11)) (.lst [])), (.cmp .eq (.bi .list [(.slot 14)]) (.sset (.slot 14)))])),
 (.ifs (.not (.call 26 [(.call 12 [(.bi .dict [(.slot 3)]), (.slot 14)]), (.and [(.slot 20), (.cmp .eq (.call 31 [(.slot 3), (.slot 14)]) (.slot 14))])])) [(.ret (.bl false))]
  [])]
abbrev L_law_5 : List CS := [(.set 22 (.comp [.mk (.nm 21) (.val (.call 31 [(.slot 3), (.tup [(.slot 11)])])) [(.cmp .nmem (.slot 21) (.slot 12))]] (.slot 21))),
 (.par [9, 23] [(.bi .sum [(.comp [.mk (.nm 21) (.val (.slot 22)) []] (.idx (.idx (.slot 4) (.slot 21)) (.int 0)))]), (.bi .sum [(.comp [.mk (.nm 21) (.val (.slot 22)) []] (.idx (.idx (.slot 4) (.slot 21)) (.int 1)))])]),
 (.ifs (.and [(.cmp .nmem (.slot 11) (.slot 12)), (.cmp .le (.bin .add (.bi .sum [(.comp [.mk (.nm 21) (.val (.slot 12)) []] (.idx (.idx (.slot 4) (.slot 21)) (.int 0)))]) (.slot 9)) (.slot 15))]) [(.set 19 (.ite (.or [(.cmp .is (.slot 19) .non), (.cmp .gt (.bin .mul (.slot 23) (.idx (.slot 19) (.int 1))) (.bin .mul (.idx (.slot 19) (.int 0)) (.slot 9)))]) (.tup [(.slot 23), (.slot 9), (.slot 22)]) (.slot 19)))]
  [])]
abbrev L_law_4 : List CS := [(.set 19 .non),
 (.for (.nm 11) (.val (.bi .sorted [(.slot 3)])) L_law_5),
 (.set 12 (.ite (.cmp .isn (.slot 19) .non) (.bi .tuple [(.bi .sorted [(.bin .add (.slot 12) (.bi .tuple [(.idx (.slot 19) (.int 2))]))])]) (.slot 12)))]
abbrev L_law_3 : List CS := [(.set 17 (.call 31 [(.slot 3), (.tup [(.slot 11)])])),
 (.mut .append 10 (.slot 17)),
 (.set 18 (.bi .sum [(.comp [.mk (.nm 21) (.val (.slot 17)) []] (.idx (.idx (.slot 4) (.slot 21)) (.int 0)))])),
 (.ifs (.cmp .ne (.call 18 [(.bi .dict [(.slot 3)]), (.bi .dict [(.slot 4)]), (.slot 11)]) (.slot 18)) [(.ret (.bl false))]
  []),
 (.ifs (.not (.call 26 [(.call 19 [(.bi .dict [(.slot 3)]), (.bi .dict [(.slot 4)]), (.slot 15), (.slot 11)]), (.cmp .eq (.comp [.mk (.nm 24) (.val (.slot 8)) [(.and [(.cmp .le (.idx (.slot 24) (.int 3)) (.slot 15)), (.cmp .mem (.slot 11) (.idx (.slot 24) (.int 2)))])]] (.slot 24)) (.lst []))])) [(.ret (.bl false))]
  [])]
abbrev L_law_2 : List CS := [(.mut .append 16 (.bi .min [(.comp [.mk (.nm 24) (.val (.slot 8)) [(.cmp .le (.idx (.slot 24) (.int 3)) (.slot 9))]] (.slc (.slot 24) none (some (.int 3))))]))]
abbrev L_law_1 : List CS := [(.set 3 (.call 28 [(.slot 1), (.int 6), (.int 2), (.tup [(.str [103, 110, 117]), (.str [104, 101, 110]), (.str [105, 109, 112]), (.str [106, 97, 121]), (.str [107, 105, 100])])])),
 (.set 4 (.bi .dict [(.comp [.mk (.nm 11) (.val (.slot 3)) []] (.tup [(.slot 11), (.tup [(.bin .add (.int 1) (.call 24 [(.slot 1), (.int 5)])), (.call 24 [(.slot 1), (.int 9)])])]))])),
 (.set 5 (.call 30 [(.bi .tuple [(.bi .sorted [(.slot 3)])])])),
 (.set 6 (.call 25 [(.slot 1), (.slot 5)])),
 (.ifs (.cmp .ne (.call 11 [(.bi .dict [(.slot 3)]), (.slot 6)]) (.call 31 [(.slot 3), (.slot 6)])) [(.ret (.bl false))]
  []),
 (.ifs (.or [(.cmp .ne (.call 13 [(.bi .dict [(.slot 4)]), (.slot 6)]) (.bi .sum [(.comp [.mk (.nm 11) (.val (.slot 6)) []] (.idx (.idx (.slot 4) (.slot 11)) (.int 0)))])), (.cmp .ne (.call 14 [(.bi .dict [(.slot 4)]), (.slot 6)]) (.bi .sum [(.comp [.mk (.nm 11) (.val (.slot 6)) []] (.idx (.idx (.slot 4) (.slot 11)) (.int 1)))]))]) [(.ret (.bl false))]
  []),
 (.set 7 (.comp [.mk (.nm 21) (.val (.slot 5)) [(.cmp .eq (.call 31 [(.slot 3), (.slot 21)]) (.slot 21))]] (.slot 21))),
 (.set 8 (.comp [.mk (.nm 21) (.val (.slot 7)) []] (.tup [(.neg (.bi .sum [(.comp [.mk (.nm 11) (.val (.slot 21)) []] (.idx (.idx (.slot 4) (.slot 11)) (.int 1)))])), (.bi .len [(.slot 21)]), (.slot 21), (.bi .sum [(.comp [.mk (.nm 11) (.val (.slot 21)) []] (.idx (.idx (.slot 4) (.slot 11)) (.int 0)))])]))),
 (.par [15, 16] [(.call 24 [(.slot 1), (.int 14)]), (.lst [])]),
 (.for (.nm 9) (.rng [(.bin .add (.slot 15) (.int 1))]) L_law_2),
 (.ifs (.or [(.cmp .ne (.call 16 [(.bi .dict [(.slot 3)]), (.bi .dict [(.slot 4)]), (.slot 15)]) (.tup [(.neg (.idx (.idx (.slot 16) (.neg (.int 1))) (.int 0))), (.idx (.idx (.slot 16) (.neg (.int 1))) (.int 2))])), (.cmp .ne (.call 17 [(.bi .dict [(.slot 3)]), (.bi .dict [(.slot 4)]), (.slot 15)]) (.bi .tuple [(.comp [.mk (.nm 24) (.val (.slot 16)) []] (.neg (.idx (.slot 24) (.int 0))))]))]) [(.ret (.bl false))]
  []),
 (.set 10 (.lst [])),
 (.for (.nm 11) (.val (.bi .sorted [(.slot 3)])) L_law_3),
 (.ifs (.cmp .ne (.call 20 [(.bi .dict [(.slot 3)])]) (.bi .tuple [(.sset (.slot 10))])) [(.ret (.bl false))]
  []),
 (.set 12 (.tup [])),
 (.for (.nm 13) (.rng [(.bi .len [(.slot 3)])]) L_law_4),
 (.ifs (.cmp .ne (.call 22 [(.bi .dict [(.slot 3)]), (.bi .dict [(.slot 4)]), (.slot 15)]) (.slot 12)) [(.ret (.bl false))]
  []),
 (.for (.nm 14) (.val (.tup [(.slot 6), (.call 31 [(.slot 3), (.slot 6)]), (.bi .list [(.slot 6)]), .non, (.tup []), (.rev (.slot 6)), (.bin .add (.slot 6) (.slc (.slot 6) (some (.neg (.int 1))) none)), (.bin .add (.slot 6) (.tup [(.str [122, 111, 111])])), (.bin .add (.slot 6) (.tup [(.int 3)])), (.tup [(.str [103, 110, 117])]), (.bi .tuple [(.bi .sorted [(.slot 3)])])])) L_law_6)]
abbrev B_law : List CS := [(.cell 1 (.dic [(.str [100, 114, 97, 119, 115]), (.call 23 [(.slot 0), (.int 400)]), (.str [97, 116]), (.int 0)])),
 (.for (.nm 2) (.rng [(.int 3)]) L_law_1),
 (.ret (.bl true))]
def c_law : FC := ⟨1, 25, B_law⟩
abbrev i_is_name : Nat := 0
abbrev i_is_ascending : Nat := 1
abbrev i_set_of : Nat := 2
abbrev i_sets_of : Nat := 3
abbrev i_all_sets : Nat := 4
abbrev i_common : Nat := 5
abbrev i_fraction : Nat := 6
abbrev i_is_less : Nat := 7
abbrev i_is_word_row : Nat := 8
abbrev i_is_word_set : Nat := 9
abbrev i_uses : Nat := 10
abbrev i_closed_choice : Nat := 11
abbrev i_is_choice : Nat := 12
abbrev i_lines_of_words : Nat := 13
abbrev i_worth_of_words : Nat := 14
abbrev i_choices_within : Nat := 15
abbrev i_best_choice : Nat := 16
abbrev i_best_by_lines : Nat := 17
abbrev i_price_of_word : Nat := 18
abbrev i_must_go : Nat := 19
abbrev i_lots_of_choice : Nat := 20
abbrev i_next_word : Nat := 21
abbrev i_grown_choice : Nat := 22
abbrev i_law_draws : Nat := 23
abbrev i_law_next : Nat := 24
abbrev i_law_pick : Nat := 25
abbrev i_law_is_bit : Nat := 26
abbrev i_law_is_name : Nat := 27
abbrev i_law_book : Nat := 28
abbrev i_law_used : Nat := 29
abbrev i_law_sets : Nat := 30
abbrev i_law_closed : Nat := 31
abbrev i_law : Nat := 32
def tab : List FC := [c_is_name, c_is_ascending, c_set_of, c_sets_of, c_all_sets, c_common, c_fraction, c_is_less, c_is_word_row, c_is_word_set, c_uses, c_closed_choice, c_is_choice, c_lines_of_words, c_worth_of_words, c_choices_within, c_best_choice, c_best_by_lines, c_price_of_word, c_must_go, c_lots_of_choice, c_next_word, c_grown_choice, c_law_draws, c_law_next, c_law_pick, c_law_is_bit, c_law_is_name, c_law_book, c_law_used, c_law_sets, c_law_closed, c_law]
def gls : List PV := [.str [97, 98, 99, 100, 101, 102, 103, 104, 105, 106, 107, 108, 109, 110, 111, 112, 113, 114, 115, 116, 117, 118, 119, 120, 121, 122]]
def gl : Nat → Option PV := fun g => gls[g]?
end K45
namespace K45
open PySem PySem.Spec PyProof.Rows L2 EvB
open Ev (PV Store Res FC)
def top (i : Nat) : Stmt := PySem.Challenge.pw_toldbywords_k45_whole_books_cut_to_a_siz.main.body.getD i (.Pass ⟨0, 0, 0, 0⟩)
def D0 : DD := ⟨"is_name", "is_name", "is_name", defArgs (top 2), defBody (top 2), defScope (top 2), ["thing", "sign"], ["thing"], c_is_name⟩
def D1 : DD := ⟨"is_ascending", "is_ascending", "is_ascending", defArgs (top 3), defBody (top 3), defScope (top 3), ["things", "k"], ["things"], c_is_ascending⟩
def D2 : DD := ⟨"set_of", "set_of", "set_of", defArgs (top 4), defBody (top 4), defScope (top 4), ["things"], ["things"], c_set_of⟩
def D3 : DD := ⟨"sets_of", "sets_of", "sets_of", defArgs (top 5), defBody (top 5), defScope (top 5), ["things", "many", "found", "_", "row", "one"], ["things", "many"], c_sets_of⟩
def D4 : DD := ⟨"all_sets", "all_sets", "all_sets", defArgs (top 6), defBody (top 6), defScope (top 6), ["things", "found", "many"], ["things"], c_all_sets⟩
def D5 : DD := ⟨"common", "common", "common", defArgs (top 7), defBody (top 7), defScope (top 7), ["a", "b"], ["a", "b"], c_common⟩
def D6 : DD := ⟨"fraction", "fraction", "fraction", defArgs (top 8), defBody (top 8), defScope (top 8), ["a", "b", "by"], ["a", "b"], c_fraction⟩
def D7 : DD := ⟨"is_less", "is_less", "is_less", defArgs (top 9), defBody (top 9), defScope (top 9), ["one", "other"], ["one", "other"], c_is_less⟩
def D8 : DD := ⟨"is_word_row", "is_word_row", "is_word_row", defArgs (top 10), defBody (top 10), defScope (top 10), ["thing", "word"], ["thing"], c_is_word_row⟩
def D9 : DD := ⟨"is_word_set", "is_word_set", "is_word_set", defArgs (top 11), defBody (top 11), defScope (top 11), ["thing"], ["thing"], c_is_word_set⟩
def D10 : DD := ⟨"uses", "uses", "uses", defArgs (top 13), defBody (top 13), defScope (top 13), ["book", "word", "sense", "own"], ["book", "word"], c_uses⟩
def D11 : DD := ⟨"closed_choice", "closed_choice", "closed_choice", defArgs (top 15), defBody (top 15), defScope (top 15), ["book", "words", "found", "at", "own"], ["book", "words"], c_closed_choice⟩
def D12 : DD := ⟨"is_choice", "is_choice", "is_choice", defArgs (top 16), defBody (top 16), defScope (top 16), ["book", "words", "word"], ["book", "words"], c_is_choice⟩
def D13 : DD := ⟨"lines_of_words", "lines_of_words", "lines_of_words", defArgs (top 17), defBody (top 17), defScope (top 17), ["worths", "words", "word"], ["worths", "words"], c_lines_of_words⟩
def D14 : DD := ⟨"worth_of_words", "worth_of_words", "worth_of_words", defArgs (top 18), defBody (top 18), defScope (top 18), ["worths", "words", "word"], ["worths", "words"], c_worth_of_words⟩
def D15 : DD := ⟨"choices_within", "choices_within", "choices_within", defArgs (top 19), defBody (top 19), defScope (top 19), ["book", "worths", "most", "sets", "words"], ["book", "worths", "most"], c_choices_within⟩
def D16 : DD := ⟨"best_choice", "best_choice", "best_choice", defArgs (top 20), defBody (top 20), defScope (top 20), ["book", "worths", "most", "rows", "words"], ["book", "worths", "most"], c_best_choice⟩
def D17 : DD := ⟨"best_by_lines", "best_by_lines", "best_by_lines", defArgs (top 21), defBody (top 21), defScope (top 21), ["book", "worths", "most", "lines"], ["book", "worths", "most"], c_best_by_lines⟩
def D18 : DD := ⟨"price_of_word", "price_of_word", "price_of_word", defArgs (top 22), defBody (top 22), defScope (top 22), ["book", "worths", "word"], ["book", "worths", "word"], c_price_of_word⟩
def D19 : DD := ⟨"must_go", "must_go", "must_go", defArgs (top 23), defBody (top 23), defScope (top 23), ["book", "worths", "most", "word"], ["book", "worths", "most", "word"], c_must_go⟩
def D20 : DD := ⟨"lots_of_choice", "lots_of_choice", "lots_of_choice", defArgs (top 24), defBody (top 24), defScope (top 24), ["book", "word"], ["book"], c_lots_of_choice⟩
def D21 : DD := ⟨"next_word", "next_word", "next_word", defArgs (top 25), defBody (top 25), defScope (top 25), ["book", "worths", "most", "words", "best", "word", "more", "told", "own"], ["book", "worths", "most", "words"], c_next_word⟩
def D22 : DD := ⟨"grown_choice", "grown_choice", "grown_choice", defArgs (top 26), defBody (top 26), defScope (top 26), ["book", "worths", "most", "found", "more"], ["book", "worths", "most"], c_grown_choice⟩
def D23 : DD := ⟨"_law_draws", "_law_draws", "_law_draws", defArgs (top 28), defBody (top 28), defScope (top 28), ["script", "many", "draws", "mixed", "k", "cell", "rest", "turn"], ["script", "many"], c_law_draws⟩
def D24 : DD := ⟨"_law_next", "_law_next", "_law_next", defArgs (top 29), defBody (top 29), defScope (top 29), ["w", "many"], ["w", "many"], c_law_next⟩
def D25 : DD := ⟨"_law_pick", "_law_pick", "_law_pick", defArgs (top 30), defBody (top 30), defScope (top 30), ["w", "rows"], ["w", "rows"], c_law_pick⟩
def D26 : DD := ⟨"_law_is_bit", "_law_is_bit", "_law_is_bit", defArgs (top 31), defBody (top 31), defScope (top 31), ["said", "due"], ["said", "due"], c_law_is_bit⟩
def D27 : DD := ⟨"_law_is_name", "_law_is_name", "_law_is_name", defArgs (top 32), defBody (top 32), defScope (top 32), ["thing", "sign"], ["thing"], c_law_is_name⟩
def D28 : DD := ⟨"_law_book", "_law_book", "_law_book", defArgs (top 33), defBody (top 33), defScope (top 33), ["w", "most", "senses", "free", "words", "found", "word", "rows", "k", "sense", "n"], ["w", "most", "senses", "free"], c_law_book⟩
def D29 : DD := ⟨"_law_used", "_law_used", "_law_used", defArgs (top 34), defBody (top 34), defScope (top 34), ["book", "word", "found", "sense"], ["book", "word"], c_law_used⟩
def D30 : DD := ⟨"_law_sets", "_law_sets", "_law_sets", defArgs (top 35), defBody (top 35), defScope (top 35), ["things", "k", "found", "layer", "longer", "row", "thing"], ["things"], c_law_sets⟩
def D31 : DD := ⟨"_law_closed", "_law_closed", "_law_closed", defArgs (top 36), defBody (top 36), defScope (top 36), ["book", "words", "found", "turn", "word", "own"], ["book", "words"], c_law_closed⟩
def D32 : DD := ⟨"law", "law", "law", defArgs (top 37), defBody (top 37), defScope (top 37), ["script", "w", "turn", "book", "worths", "every", "some", "able", "rows", "lines", "lots", "word", "now", "step", "thing", "most", "bests", "lot", "price", "best", "right", "own", "more", "worth", "row"], ["script"], c_law⟩
def Ds : List DD := [D0, D1, D2, D3, D4, D5, D6, D7, D8, D9, D10, D11, D12, D13, D14, D15, D16, D17, D18, D19, D20, D21, D22, D23, D24, D25, D26, D27, D28, D29, D30, D31, D32]
def gs : List (Str × List Nat) := [("LETTERS", [97, 98, 99, 100, 101, 102, 103, 104, 105, 106, 107, 108, 109, 110, 111, 112, 113, 114, 115, 116, 117, 118, 119, 120, 121, 122])]
theorem tab_eq : Ds.map (·.fc) = tab := rfl
theorem hd : Ds.all (ddOk ⟨[], Ds.map (·.gname), gs.map (·.1)⟩ 60) = true := by decide +kernel
theorem gn : D32.gname = ("law" : PySem.Str) := by kernel_rfl
theorem pn : D32.ps = [("script" : PySem.Str)] := by kernel_rfl
theorem ln : Ds[32]? = some D32 := by kernel_rfl
theorem hB : BAll Ds := .cons (D := D0) (fun _ _ _ _ _ _ us hl => match us, hl with | [_], _ => rfl)
  (.cons (D := D1) (fun _ _ _ _ _ _ us hl => match us, hl with | [_], _ => rfl)
  (.cons (D := D2) (fun _ _ _ _ _ _ us hl => match us, hl with | [_], _ => rfl)
  (.cons (D := D3) (fun _ _ _ _ _ _ us hl => match us, hl with | [_, _], _ => rfl)
  (.cons (D := D4) (fun _ _ _ _ _ _ us hl => match us, hl with | [_], _ => rfl)
  (.cons (D := D5) (fun _ _ _ _ _ _ us hl => match us, hl with | [_, _], _ => rfl)
  (.cons (D := D6) (fun _ _ _ _ _ _ us hl => match us, hl with | [_, _], _ => rfl)
  (.cons (D := D7) (fun _ _ _ _ _ _ us hl => match us, hl with | [_, _], _ => rfl)
  (.cons (D := D8) (fun _ _ _ _ _ _ us hl => match us, hl with | [_], _ => rfl)
  (.cons (D := D9) (fun _ _ _ _ _ _ us hl => match us, hl with | [_], _ => rfl)
  (.cons (D := D10) (fun _ _ _ _ _ _ us hl => match us, hl with | [_, _], _ => rfl)
  (.cons (D := D11) (fun _ _ _ _ _ _ us hl => match us, hl with | [_, _], _ => rfl)
  (.cons (D := D12) (fun _ _ _ _ _ _ us hl => match us, hl with | [_, _], _ => rfl)
  (.cons (D := D13) (fun _ _ _ _ _ _ us hl => match us, hl with | [_, _], _ => rfl)
  (.cons (D := D14) (fun _ _ _ _ _ _ us hl => match us, hl with | [_, _], _ => rfl)
  (.cons (D := D15) (fun _ _ _ _ _ _ us hl => match us, hl with | [_, _, _], _ => rfl)
  (.cons (D := D16) (fun _ _ _ _ _ _ us hl => match us, hl with | [_, _, _], _ => rfl)
  (.cons (D := D17) (fun _ _ _ _ _ _ us hl => match us, hl with | [_, _, _], _ => rfl)
  (.cons (D := D18) (fun _ _ _ _ _ _ us hl => match us, hl with | [_, _, _], _ => rfl)
  (.cons (D := D19) (fun _ _ _ _ _ _ us hl => match us, hl with | [_, _, _, _], _ => rfl)
  (.cons (D := D20) (fun _ _ _ _ _ _ us hl => match us, hl with | [_], _ => rfl)
  (.cons (D := D21) (fun _ _ _ _ _ _ us hl => match us, hl with | [_, _, _, _], _ => rfl)
  (.cons (D := D22) (fun _ _ _ _ _ _ us hl => match us, hl with | [_, _, _], _ => rfl)
  (.cons (D := D23) (fun _ _ _ _ _ _ us hl => match us, hl with | [_, _], _ => rfl)
  (.cons (D := D24) (fun _ _ _ _ _ _ us hl => match us, hl with | [_, _], _ => rfl)
  (.cons (D := D25) (fun _ _ _ _ _ _ us hl => match us, hl with | [_, _], _ => rfl)
  (.cons (D := D26) (fun _ _ _ _ _ _ us hl => match us, hl with | [_, _], _ => rfl)
  (.cons (D := D27) (fun _ _ _ _ _ _ us hl => match us, hl with | [_], _ => rfl)
  (.cons (D := D28) (fun _ _ _ _ _ _ us hl => match us, hl with | [_, _, _, _], _ => rfl)
  (.cons (D := D29) (fun _ _ _ _ _ _ us hl => match us, hl with | [_, _], _ => rfl)
  (.cons (D := D30) (fun _ _ _ _ _ _ us hl => match us, hl with | [_], _ => rfl)
  (.cons (D := D31) (fun _ _ _ _ _ _ us hl => match us, hl with | [_, _], _ => rfl)
  (.cons (D := D32) (fun _ _ _ _ _ _ us hl => match us, hl with | [_], _ => rfl)
  (.nil)))))))))))))))))))))))))))))))))
abbrev R : PySem.W.OpenRow := PySem.W.OpenLaw.row PySem.Challenge.rw_toldbywords_k45_whole_books_cut_to_a_siz
abbrev hk : PySem.W.Hook := He.hookD 4 (faL Ds gs) (fnL Ds)
def ob (s : PySem.W.SharedT) : He.AlD := He.obsDG 4 (faL Ds gs) (fnL Ds) (HandSHeadRun.getT s)
theorem ob_eq (s : PySem.W.SharedT) : ob s = hk.obs s.abs := He.obsDG_eq (HandSHeadRun.getT_eq s)
def names : List PySem.Str := (["is_name", "is_ascending", "set_of", "sets_of", "all_sets", "common", "fraction", "is_less", "is_word_row", "is_word_set", "uses", "closed_choice", "is_choice", "lines_of_words", "worth_of_words", "choices_within", "best_choice", "best_by_lines", "price_of_word", "must_go", "lots_of_choice", "next_word", "grown_choice", "_law_draws", "_law_next", "_law_pick", "_law_is_bit", "_law_is_name", "_law_book", "_law_used"] : List PySem.Str) ++ (["_law_sets", "_law_closed", "LETTERS"] : List PySem.Str)
theorem run (w : World) : HandSHeadRun.RunEq R (PySem.W.view R.prog [37]) hk ob 2000 names w := by
  intro os
  kernel_rfl
end K45
end

section
/-! sizes: the books, what comes of words -/
set_option autoImplicit false
set_option linter.unusedSimpArgs false
set_option linter.unusedVariables false
namespace K45
open Ev Res PV
open Enc (e)
abbrev Sn := List T
abbrev Bk := List (T × List Sn)
def eSn (s : Sn) : PV := .tup (s.map e)
def eSs (ss : List Sn) : PV := .tup (ss.map eSn)
def bD (b : Bk) : List (PV × PV) := encD (b.map fun p => (p.1, eSs p.2))
abbrev keys (b : Bk) : List T := b.map (·.1)
def snsOf (b : Bk) (w : T) : List Sn := (getT b w).getD []
structure IsB (b : Bk) : Prop where
  asc : Asc (keys b)
  len : b.length ≤ 6
  ss : ∀ p ∈ b, p.2.length ≤ 2 ∧ ∀ s ∈ p.2, s.length ≤ 3
  nm : ∀ w ∈ keys b, nmS w.s = true ∧ w.s.length ≤ 10
theorem getT_map {α β γ : Type} [DecidableEq α] (f : β → γ) (d : List (α × β)) (k : α) : getT (d.map fun p => (p.1, f p.2)) k = (getT d k).map f := by
  unfold getT
  rw [List.find?_map, Option.map_map, Option.map_map]
  rfl
theorem d0 : Enc.dep T ≤ 8 := by decide
theorem d60 : Enc.dep T ≤ 60 := by decide
theorem memT (a : T) (l : List T) : memE (e a) (.lst (l.map e)) = .ok (decide (a ∈ l)) := mem_lst d60 a l
theorem memTt (a : T) (l : List T) : memE (e a) (.tup (l.map e)) = .ok (decide (a ∈ l)) := mem_tup d60 a l
theorem memB (a : T) (b : Bk) : memE (e a) (.dct (bD b)) = .ok (decide (a ∈ keys b)) := by
  rw [memE, isKey_e d0, need_true, ok_bind, bD, has_e, List.map_map]; rfl
theorem subB {b : Bk} {w : T} (hw : w ∈ keys b) : subscr (.dct (bD b)) (e w) = .ok (eSs (snsOf b w)) := by
  obtain ⟨ss, h⟩ := getT_some hw
  rw [su_dct, isKey_e d0, need_true, ok_bind, bD, get_e, getT_map, snsOf, h]; rfl
theorem sns_mem {b : Bk} {w : T} (hw : w ∈ keys b) : (w, snsOf b w) ∈ b := by
  obtain ⟨ss, h⟩ := getT_some hw
  rw [snsOf, h]
  exact getT_mem h
theorem flat_len {ss : List Sn} {n m : Nat} (h1 : ss.length ≤ n) (h2 : ∀ s ∈ ss, s.length ≤ m) : ss.flatten.length ≤ n * m := by
  have : ss.flatten.length ≤ ss.length * m := by
    clear h1
    induction ss with
    | nil => simp
    | cons s ss ih =>
      rw [List.flatten_cons, List.length_append, List.length_cons, Nat.succ_mul]
      have a1 := h2 s List.mem_cons_self
      have a2 := ih fun x hx => h2 x (List.mem_cons_of_mem _ hx)
      omega
  exact Nat.le_trans this (Nat.mul_le_mul_right m h1)
theorem IsB.flat {b : Bk} (h : IsB b) {w : T} (hw : w ∈ keys b) : (snsOf b w).flatten.length ≤ 6 := by
  have := h.ss _ (sns_mem hw)
  exact flat_len (n := 2) (m := 3) this.1 this.2
def us (b : Bk) (w : T) : List T := sd (snsOf b w).flatten
def nx (b : Bk) (w : T) : List T := (us b w).filter fun x => decide (x ∈ keys b)
noncomputable def cl (b : Bk) (ws : List T) : List T := clo (nx b) ws (keys b)
section
variable {W k : Nat} {S : Store} {b : Bk}
theorem set_T (hS : Sok S) (l : List T) (hl : l.length < 4000) : callAt tab gl W (k + 1) 2 [.lst (l.map e)] S = .ok (.tup ((sd l).map e), S) := setof_l rfl hS d0 l hl (Or.inl rfl)
theorem set_Tt (hS : Sok S) (l : List T) (hl : l.length < 4000) : callAt tab gl W (k + 1) 2 [.tup (l.map e)] S = .ok (.tup ((sd l).map e), S) := setof_t rfl hS d0 l hl (Or.inl rfl)
theorem uses_ok (hS : Sok S) (hb : IsB b) {w : T} (hw : w ∈ keys b) : callAt tab gl W (k + 2) 10 [.dct (bD b), e w] S = .ok (.tup ((us b w).map e), S) := by
  rw [call_lit (tab := tab) (f := 10) (np := 2) (n := 4) rfl]
  have hfl := hb.flat hw
  have e1 : eachL (part2 (callAt tab gl W (k + 1)) gl [some (.dct (bD b)), some (e w), none, none] (.nm 2) [] (.nm 3) (.val (.slot 2)) [] (.slot 3)) ((snsOf b w).map eSn) S = .ok (((snsOf b w).flatMap fun s => s).map e, S) := by
    refine each_fm fun s _ => ?_
    have e2 : eachL (part1 (callAt tab gl W (k + 1)) gl [some (.dct (bD b)), some (e w), some (eSn s), none] (.nm 3) [] (.slot 3)) (s.map e) S = .ok ((s.map fun x => x).map e, S) := each_map fun x _ => by simp [part1]
    rw [List.map_id'] at e2
    simp [part2, eSn] at e2 ⊢
    simp [e2]
  rw [List.flatMap_id'] at e1
  have h := set_T (W := W) (k := k) hS (snsOf b w).flatten (by omega)
  rw [← us] at h
  have e3 := subB hw
  rw [eSs] at e3
  generalize (snsOf b w).flatten = l at e1 h hfl
  simp (disch := first | omega | (simp; done) | (simp; omega) | fail "no") [-List.map_map, fits_len, dec_line, List.replicate, e3, e1, h, hS.fin, -su_dct]
theorem nx_nd (b : Bk) (w : T) : (nx b w).Nodup := (sd_nodup _).filter _
theorem nx_sub {b : Bk} {w x : T} (h : x ∈ nx b w) : x ∈ keys b := by simpa using (List.mem_filter.1 h).2
theorem cl_len (hb : IsB b) (ws : List T) : (cl b ws).length ≤ 6 := by
  have h1 : (keys b).length ≤ 6 := by rw [List.length_map]; exact hb.len
  refine Nat.le_trans (nodup_sub_len (m := keys b) clo_asc.nodup fun x hx => ?_) h1
  unfold cl clo at hx
  exact mem_sd.1 (List.mem_filter.1 hx).1
theorem mem_cl {b : Bk} {ws : List T} (hws : ∀ w ∈ ws, w ∈ keys b) {x : T} : x ∈ cl b ws ↔ Rch (nx b) ws x := mem_clo hws fun y _ z hz => nx_sub hz
theorem cl_sub {b : Bk} {ws : List T} {x : T} (hx : x ∈ cl b ws) : x ∈ keys b := by
  unfold cl clo at hx
  exact mem_sd.1 (List.mem_filter.1 hx).1
theorem closed_ok (hS : Sok S) (hW : 100 ≤ W) (hb : IsB b) {ws : List T} (hn : ws.Nodup) (hws : ∀ w ∈ ws, w ∈ keys b) : callAt tab gl W (k + 3) 11 [.dct (bD b), .tup (ws.map e)] S = .ok (.tup ((cl b ws).map e), S) := by
  have hk : (keys b).length ≤ 6 := by rw [List.length_map]; exact hb.len
  have hwl : ws.length ≤ 6 := Nat.le_trans (nodup_sub_len hn hws) hk
  have hn2 : ∀ x ∈ keys b, ∀ y ∈ nx b x, y ∈ keys b := fun x _ y hy => nx_sub hy
  have key := while_fold (S := S) (cond := condW (callAt tab gl W (k + 2)) gl (.cmp .lt (.slot 3) (.bi .len [(.slot 2)]))) (body := bodyB (callAt tab gl W (k + 2)) gl W L_closed_choice_1)
    (I := fun (s : List T × Nat) env => Wl (nx b) ws (keys b) s ∧ ∃ z4, env = [.fz (.dct (bD b)), .fz (.tup (ws.map e)), .ow (.lst (s.1.map e)), .fz (.int s.2), z4])
    (m := fun s => 7 - s.2) (go := fun s => decide (s.2 < s.1.length)) (step := wlStep (nx b)) ?_ ?_ W (ws, 0) _ ⟨Wl.start hn, .un, rfl⟩ (by show 7 - 0 < W; omega)
  · obtain ⟨env1, s1, n, h1, ⟨hw1, z4, rfl⟩, hg, _⟩ := key
    have hg : ¬ s1.2 < s1.1.length := of_decide_eq_false hg
    have h2 := hw1.len hws hn2
    have h3 := hw1.st hws hn2 hg
    have h4 := sorted_e d60 s1.1 (by omega)
    rw [h3, ← cl] at h4
    have h5 := cl_len hb ws
    rw [call_lit (tab := tab) (f := 11) (np := 2) (n := 5) rfl]
    have h1' : whileL (condW (callAt tab gl W (k + 2)) gl (.cmp .lt (.slot 3) (.bi .len [(.slot 2)]))) (bodyB (callAt tab gl W (k + 2)) gl W L_closed_choice_1) W [.fz (.dct (bD b)), .fz (.tup (ws.map e)), .ow (.lst (ws.map e)), .fz (.int 0), .un] S = _ := h1
    simp (disch := first | omega | (simp; done) | (simp; omega) | fail "no") [-List.map_map, fits_len, dec_line, List.replicate, h1', h4, hS.fin]
  · rintro s env ⟨hw1, z4, rfl⟩
    simp (disch := first | omega | (simp; done) | (simp; omega) | fail "no") [-List.map_map, fits_len, dec_line, condW]
  · rintro s env ⟨hw1, z4, rfl⟩ hg
    have hg : s.2 < s.1.length := of_decide_eq_true hg
    have h2 := hw1.len hws hn2
    have hk2 : s.1[s.2] ∈ keys b := (hw1.rch _ (List.getElem_mem hg)).sub hws hn2
    have e1 : atL (s.1.map e) (s.2 : Int) = some (e s.1[s.2]) := at_map e hg
    have h3 := uses_ok (W := W) (k := k) hS hb hk2
    have h4 : (us b s.1[s.2]).length ≤ 6 := Nat.le_trans (sd_len _) (hb.flat hk2)
    have h5 := List.length_filter_le (fun y : T => !decide (y ∈ s.1)) (nx b s.1[s.2])
    have h6 : (nx b s.1[s.2]).length ≤ 6 := Nat.le_trans (List.length_filter_le ..) h4
    refine ⟨.nx, [.fz (.dct (bD b)), .fz (.tup (ws.map e)), .ow (.lst ((wlStep (nx b) s).1.map e)), .fz (.int ((wlStep (nx b) s).2 : Int)), z4], ?_, Or.inl rfl, ⟨hw1.step (fun x _ => nx_nd b x) hg, z4, rfl⟩, ?_⟩
    · rw [wlStep_eq hg]
      have e2 : eachL (part1 (callAt tab gl W (k + 2)) gl [some (.dct (bD b)), some (.tup (ws.map e)), some (.lst (s.1.map e)), some (.int s.2), z4.val] (.nm 4) [(.and [(.cmp .mem (.slot 4) (.slot 0)), (.cmp .nmem (.slot 4) (.slot 2))])] (.slot 4)) ((us b s.1[s.2]).map e) S = .ok (((nx b s.1[s.2]).filter fun y => !decide (y ∈ s.1)).map e, S) := by
        have := each_flt (S := S) (en := e) (l := us b s.1[s.2]) (p := fun y => !decide (y ∈ s.1) && decide (y ∈ keys b)) (f := part1 (callAt tab gl W (k + 2)) gl [some (.dct (bD b)), some (.tup (ws.map e)), some (.lst (s.1.map e)), some (.int s.2), z4.val] (.nm 4) [(.and [(.cmp .mem (.slot 4) (.slot 0)), (.cmp .nmem (.slot 4) (.slot 2))])] (.slot 4)) fun x _ => by
          have a1 := memB x b
          by_cases c1 : x ∈ keys b <;> by_cases c2 : x ∈ s.1 <;> simp only [c1, c2, decide_true, decide_false] at a1 ⊢ <;> simp [part1, a1, memT, c2]
        rw [this, nx, List.filter_filter]
      simp (disch := first | omega | (simp; done) | (simp; omega) | fail "no") [-List.map_map, fits_len, dec_line, e1, h3, e2, small_nat (by omega : s.2 ≤ 16777216)]
    · rw [wlStep_eq hg]
      show 7 - (s.2 + 1) < 7 - s.2
      omega
end
end K45
end

section
/-! sizes: sets, lines, worths -/
set_option autoImplicit false
set_option linter.unusedSimpArgs false
set_option linter.unusedVariables false
namespace K45
open Ev Res PV
open Enc (e)
/-- the sets of so many, in order -/
def more (U : List T) (row : Sn) : List Sn := (U.filter fun x => decide (row = []) || (match row.getLast? with | some y => Enc.lt y x | none => false)).map fun x => row ++ [x]
def lay (U : List T) : Nat → List Sn
  | 0 => [[]]
  | n + 1 => (lay U n).flatMap (more U)
theorem lay_row {U : List T} : ∀ {n : Nat} {r : Sn}, r ∈ lay U n → r.length = n
  | 0, r, h => by rw [List.mem_singleton.1 h]; rfl
  | n + 1, r, h => by
    obtain ⟨q, h1, h2⟩ := List.mem_flatMap.1 h
    obtain ⟨x, _, rfl⟩ := List.mem_map.1 h2
    rw [List.length_append, lay_row h1]; rfl
theorem lay_len {U : List T} {m : Nat} (hU : U.length ≤ m) : ∀ n, (lay U n).length ≤ m ^ n
  | 0 => by simp [lay]
  | n + 1 => by
    have ih := lay_len hU n
    have : ∀ l : List Sn, (l.flatMap (more U)).length ≤ l.length * m := fun l => by
      induction l with
      | nil => simp
      | cons r l ih =>
        rw [List.flatMap_cons, List.length_append, List.length_cons, Nat.succ_mul]
        have : (more U r).length ≤ m := by rw [more, List.length_map]; exact Nat.le_trans (List.length_filter_le ..) hU
        omega
    rw [lay, Nat.pow_succ]
    exact Nat.le_trans (this _) (Nat.mul_le_mul_right m ih)
theorem lay_le {U : List T} (hU : U.length ≤ 6) {n : Nat} (hn : n ≤ 6) : (lay U n).length ≤ 46656 := by
  refine Nat.le_trans (lay_len hU n) ?_
  exact Nat.le_trans (Nat.pow_le_pow_right (by omega) hn) (by decide)
def allS (U : List T) (n : Nat) : List Sn := (List.range n).flatMap (lay U)
theorem allS_succ (U : List T) (n : Nat) : allS U (n + 1) = allS U n ++ lay U n := by
  rw [allS, List.range_succ, List.flatMap_append]; simp [allS]
theorem allS_le {U : List T} (hU : U.length ≤ 6) : ∀ {n : Nat}, n ≤ 7 → (allS U n).length ≤ 46656 * n
  | 0, _ => by simp [allS]
  | n + 1, h => by
    rw [allS_succ, List.length_append]
    have h1 := allS_le hU (n := n) (by omega)
    have h2 := lay_le hU (n := n) (by omega)
    omega
theorem atL_last {α : Type} (g : α → PV) {l : List α} {y : α} (h : l.getLast? = some y) : atL (l.map g) (-1) = some (g y) := by
  have hne : l ≠ [] := fun hh => by rw [hh] at h; cases h
  have hp : 0 < l.length := List.length_pos_iff.2 hne
  have h1 : place (l.map g).length (-1) = some (l.length - 1) := by
    unfold place
    rw [List.length_map, if_neg (by omega), if_pos (by omega)]
    congr 1
    omega
  rw [atL, h1, Option.bind_some, List.getElem?_map]
  rw [List.getLast?_eq_getElem?] at h
  rw [h]; rfl
theorem ltT (a b : T) : ltE (e a) (e b) = .ok (Enc.lt a b) := lt_e d60 a b
theorem eqTs (l m : List T) : eqE (.tup (l.map e)) (.tup (m.map e)) = .ok (decide (l = m)) := eq_tup (by decide) l m
/-- what the test of a longer set says -/
theorem more_each {cf : CallF} {env : EnvV} {S : Store} {U : List T} {row : Sn} {i j : Nat} (hij : i ≠ j) (hi : i < env.length) (hj : j < env.length) (hrow : env[i]? = some (some (eSn row))) (hr : row.length ≤ 10) :
    eachL (part1 cf gl env (.nm j) [(.or [(.cmp .eq (.slot i) (.tup [])), (.cmp .gt (.slot j) (.idx (.slot i) (.neg (.int 1))))])] (.bin .add (.slot i) (.tup [(.slot j)]))) (U.map e) S = .ok ((more U row).map eSn, S) := by
  rw [more]
  refine each_sel fun x _ => ?_
  have g1 : ((env.set j none).set j (some (e x)))[i]? = some (some (eSn row)) := by
    rw [List.getElem?_set_ne (fun h => hij h.symm), List.getElem?_set_ne (fun h => hij h.symm), hrow]
  have g2 : ((env.set j none).set j (some (e x)))[j]? = some (some (e x)) := by
    rw [List.getElem?_set_self (by simpa using hj)]
  generalize hq : (env.set j none).set j (some (e x)) = en at g1 g2
  have e0 := eqTs row []
  rw [List.map_nil] at e0
  cases hl : row.getLast? with
  | none =>
    have : row = [] := by cases row with
      | nil => rfl
      | cons a r => rw [List.getLast?_cons] at hl; cases hl
    subst this
    simp only [eSn, List.map_nil] at g1 e0
    simp [part1, hq, eSn, g1, g2]
  | some y =>
    have hne : row ≠ [] := fun hh => by rw [hh] at hl; cases hl
    have e1 := atL_last e hl
    simp only [eSn] at g1
    have e2 : (decide (row = [])) = false := by simp [hne]
    rw [e2] at e0
    cases hlt : Enc.lt y x with
    | true => simp (disch := first | omega | (simp; done) | (simp; omega) | fail "no") [-List.map_map, fits_len, dec_line, part1, hq, eSn, g1, g2, e0, e1, sm_n1, ltT, hlt, hne]
    | false => simp (disch := first | omega | (simp; done) | (simp; omega) | fail "no") [-List.map_map, fits_len, dec_line, part1, hq, eSn, g1, g2, e0, e1, sm_n1, ltT, hlt, hne]
section
variable {W k : Nat} {S : Store} {b : Bk}
theorem sets_loop {cf : CallF} {U : List T} (hU : U.length ≤ 6) (m : PV) : ∀ {n : Nat}, n ≤ 6 → ∀ {z3 z4 z5 : Sl}, ∃ y3 y4 y5, forL (.nm 3) (bodyB cf gl W L_sets_of_1) ((List.range n).map fun (k : Nat) => PV.int k) [.fz (.tup (U.map e)), .fz m, .ow (.lst ((lay U 0).map eSn)), z3, z4, z5] S =
    .ok (.nx, [.fz (.tup (U.map e)), .fz m, .ow (.lst ((lay U n).map eSn)), y3, y4, y5], S) := by
  intro n hn z3 z4 z5
  have key := for_fold (S := S) (t := .nm 3) (body := bodyB cf gl W L_sets_of_1) (en := fun (k : Nat) => PV.int k) (I := fun (r : List Nat) (j : Nat) env => j + r.length ≤ 6 ∧ ∃ z3 z4 z5, env = [.fz (.tup (U.map e)), .fz m, .ow (.lst ((lay U j).map eSn)), z3, z4, z5]) (fun j _ => j + 1) ?_ (List.range n) 0 _ ⟨by simpa using hn, z3, z4, z5, rfl⟩
  · obtain ⟨env1, h1, _, y3, y4, y5, rfl⟩ := key
    refine ⟨y3, y4, y5, ?_⟩
    rw [fold_repeat, List.length_range] at h1
    have : ∀ n : Nat, Nat.repeat (fun j => j + 1) n 0 = n := fun n => by
      induction n with
      | zero => rfl
      | succ n ih => show Nat.repeat (fun j => j + 1) n 0 + 1 = _; rw [ih]
    rw [this] at h1
    exact h1
  · rintro x r j env ⟨hl, z3, z4, z5, rfl⟩
    rw [List.length_cons] at hl
    have hln := lay_le hU (n := j + 1) (by omega)
    refine ⟨.nx, [.fz (.tup (U.map e)), .fz m, .ow (.lst ((lay U (j + 1)).map eSn)), .fz (.int x), z4, z5.freeze], ?_, Or.inl rfl, by omega, _, _, _, rfl⟩
    have e1 : eachL (part2 cf gl [some (.tup (U.map e)), some m, some (.lst ((lay U j).map eSn)), some (.int x), z4.val, z5.val] (.nm 4) [] (.nm 5) (.val (.slot 0)) [(.or [(.cmp .eq (.slot 4) (.tup [])), (.cmp .gt (.slot 5) (.idx (.slot 4) (.neg (.int 1))))])] (.bin .add (.slot 4) (.tup [(.slot 5)]))) ((lay U j).map eSn) S = .ok ((lay U (j + 1)).map eSn, S) := by
      refine each_fm fun row hrow => ?_
      have hr := lay_row hrow
      have := more_each (cf := cf) (S := S) (U := U) (row := row) (i := 4) (j := 5) (env := [some (.tup (U.map e)), some m, some (.lst ((lay U j).map eSn)), some (.int x), some (eSn row), none]) (by decide) (by simp) (by simp) rfl (by omega)
      simp only [part2, slots_nm, List.cons_append, List.nil_append, wipe_cons, wipe_nil, bindT_nm, ok_bind, xt_nil, if_true, xi_val, x_slot, List.set_cons_succ, List.set_cons_zero, List.getElem?_cons_zero, List.getElem?_cons_succ, opt_join, ofOpt_some, wk_tup]
      exact this
    simp (disch := first | omega | (simp; done) | (simp; omega) | fail "no") [-List.map_map, fits_len, dec_line, e1]
theorem setsof_ok (hS : Sok S) {U : List T} (hU : U.length ≤ 6) {n : Nat} (hn : n ≤ 6) : callAt tab gl W (k + 1) 3 [.tup (U.map e), .int n] S = .ok (.lst ((lay U n).map eSn), S) := by
  obtain ⟨y3, y4, y5, h1⟩ := sets_loop (cf := callAt tab gl W k) (W := W) (S := S) hU (.int n) hn (z3 := .un) (z4 := .un) (z5 := .un)
  have h1' : forL (.nm 3) (bodyB (callAt tab gl W k) gl W L_sets_of_1) ((List.range n).map fun (k : Nat) => PV.int k) [.fz (.tup (U.map e)), .fz (.int n), .ow (.lst [.tup []]), .un, .un, .un] S = _ := h1
  have hc : cbL S.length ((lay U n).map eSn) = true := by
    generalize lay U n = l
    induction l with
    | nil => rfl
    | cons r l ih => simp only [List.map_cons, cbL_cons, ih, eSn, cb_tup, cbL_e, Bool.and_self]
  rw [call_lit (tab := tab) (f := 3) (np := 2) (n := 6) rfl]
  have hi : ((n : Int) ≤ 16777216) := by omega
  simp (disch := first | omega | (simp; done) | (simp; omega) | fail "no") [-List.map_map, fits_len, dec_line, List.replicate, small_nat (by omega : n ≤ 16777216), hi, range_e, h1', hS.fin, hc]
end
end K45
end

section
/-! sizes: all sets, lines and worths, the best choice -/
set_option autoImplicit false
set_option linter.unusedSimpArgs false
set_option linter.unusedVariables false
namespace K45
open Ev Res PV
open Enc (e)
abbrev Wr := List (T × (Int × Int))
def wD (w : Wr) : List (PV × PV) := encD (w.map fun p => (p.1, e p.2))
def wv (w : Wr) (x : T) : Int × Int := (getT w x).getD (0, 0)
structure IsW (b : Bk) (w : Wr) : Prop where
  ks : w.map (·.1) = keys b
  bd : ∀ p ∈ w, 1 ≤ p.2.1 ∧ p.2.1 ≤ 5 ∧ 0 ≤ p.2.2 ∧ p.2.2 ≤ 8
theorem IsW.at {b : Bk} {w : Wr} (h : IsW b w) {x : T} (hx : x ∈ keys b) : subscr (.dct (wD w)) (e x) = .ok (e (wv w x)) ∧ 1 ≤ (wv w x).1 ∧ (wv w x).1 ≤ 5 ∧ 0 ≤ (wv w x).2 ∧ (wv w x).2 ≤ 8 := by
  rw [← h.ks] at hx
  obtain ⟨v, hv⟩ := getT_some hx
  have h2 := h.bd _ (getT_mem hv)
  refine ⟨?_, ?_⟩
  · rw [su_dct, isKey_e d0, need_true, ok_bind, wD, get_e, getT_map, wv, hv]; rfl
  · rw [wv, hv]; exact h2
def lin (w : Wr) (l : List T) : Int := (l.map fun x => (wv w x).1).sum
def wor (w : Wr) (l : List T) : Int := (l.map fun x => (wv w x).2).sum
theorem allS_cb {U : List T} (m n : Nat) : cbL m ((allS U n).map eSn) = true := by
  generalize allS U n = l
  induction l with
  | nil => rfl
  | cons r l ih => simp only [List.map_cons, cbL_cons, ih, eSn, cb_tup, cbL_e, Bool.and_self]
@[simp] theorem eSn_cb (m : Nat) (s : Sn) : (eSn s).cb m = true := by simp [eSn]
@[simp] theorem sns_cb (m : Nat) (l : List Sn) : cbL m (l.map eSn) = true := by
  induction l with
  | nil => rfl
  | cons r l ih => simp only [List.map_cons, cbL_cons, ih, eSn_cb, Bool.and_self]
@[simp] theorem sns_imm (l : List Sn) : immL (l.map eSn) = true := by
  induction l with
  | nil => rfl
  | cons r l ih => simp [List.map_cons, ih, eSn]
section
variable {W k : Nat} {S : Store} {b : Bk} {w : Wr}
theorem alls_ok (hS : Sok S) {U : List T} (hU : U.length ≤ 6) : callAt tab gl W (k + 2) 4 [.tup (U.map e)] S = .ok (.lst ((allS U (U.length + 1)).map eSn), S) := by
  have key := for_fold (S := S) (t := .nm 2) (body := bodyB (callAt tab gl W (k + 1)) gl W L_all_sets_1) (en := fun (k : Nat) => PV.int k) (I := fun (r : List Nat) (j : Nat) env => (∃ p, p ++ r = List.range (U.length + 1) ∧ p.length = j) ∧ ∃ z2, env = [.fz (.tup (U.map e)), .ow (.lst ((allS U j).map eSn)), z2]) (fun j _ => j + 1) ?_ (List.range (U.length + 1)) 0 _ ⟨⟨[], by simp⟩, .un, rfl⟩
  · obtain ⟨env1, h1, ⟨p, hp, hpl⟩, y2, rfl⟩ := key
    rw [fold_repeat, List.length_range] at h1 hpl
    have hl : p.length = U.length + 1 := by rw [List.append_nil] at hp; rw [hp, List.length_range]
    rw [← hpl, hl] at h1
    have h2 : Nat.repeat (fun j => j + 1) (U.length + 1) 0 = U.length + 1 := by rw [← hpl, hl]
    have ha := allS_le hU (n := U.length + 1) (by omega)
    have hi : (((U.length + 1 : Nat) : Int) ≤ 16777216) := by omega
    have hi' : (((U.length : Int) + 1) ≤ 16777216) := by omega
    have hsm : small62 ((U.length : Int) + 1) = true := small_of (by omega) (by omega)
    have hr : rangeL 0 ((U.length : Int) + 1) 1 = (List.range (U.length + 1)).map fun (k : Nat) => PV.int k := range_e (U.length + 1)
    rw [call_lit (tab := tab) (f := 4) (np := 1) (n := 3) rfl]
    have h1' : forL (.nm 2) (bodyB (callAt tab gl W (k + 1)) gl W L_all_sets_1) ((List.range (U.length + 1)).map fun (k : Nat) => PV.int k) [.fz (.tup (U.map e)), .ow (.lst []), .un] S = _ := h1
    simp (disch := first | omega | (simp; done) | (simp; omega) | fail "no") [-List.map_map, fits_len, dec_line, List.replicate, hi', hsm, hr, h1', hS.fin, allS_cb]
  · rintro x r j env ⟨⟨p, hp, hpl⟩, z2, rfl⟩
    have hx : x = j := by
      have h1 : (List.range (U.length + 1))[p.length]? = some x := by rw [← hp, List.getElem?_append_right (Nat.le_refl _), Nat.sub_self]; rfl
      rw [hpl] at h1
      have h2 := List.getElem?_eq_some_iff.1 h1
      obtain ⟨h3, h4⟩ := h2
      rw [List.getElem_range] at h4
      exact h4.symm
    have hj : j ≤ U.length := by
      have := congrArg List.length hp
      rw [List.length_append, List.length_cons, List.length_range] at this
      omega
    subst hx
    have h1 := setsof_ok (W := W) (k := k) hS hU (n := x) (by omega)
    have ha := allS_le hU (n := x) (by omega)
    have hb := lay_le hU (n := x) (by omega)
    refine ⟨.nx, [.fz (.tup (U.map e)), .ow (.lst ((allS U (x + 1)).map eSn)), .fz (.int x)], ?_, Or.inl rfl, ⟨p ++ [x], by simp [hp], by simp [hpl]⟩, _, rfl⟩
    rw [allS_succ]
    simp (disch := first | omega | (simp; done) | (simp; omega) | fail "no") [-List.map_map, fits_len, dec_line, h1, sns_imm]
theorem lines_ok (hS : Sok S) (hw : IsW b w) {l : List T} (hl : ∀ x ∈ l, x ∈ keys b) (hn : l.length ≤ 100) : callAt tab gl W (k + 1) 13 [.dct (wD w), .tup (l.map e)] S = .ok (.int (lin w l), S) := by
  rw [call_lit (tab := tab) (f := 13) (np := 2) (n := 3) rfl]
  have e1 : eachL (part1 (callAt tab gl W k) gl [some (.dct (wD w)), some (.tup (l.map e)), none] (.nm 2) [] (.idx (.idx (.slot 0) (.slot 2)) (.int 0))) (l.map e) S = .ok ((l.map fun x => (wv w x).1).map .int, S) := each_map fun x hx => by
    simp [part1, (hw.at (hl x hx)).1, -su_dct]; rfl
  simp (disch := first | omega | (simp; done) | (simp; omega) | fail "no") [-List.map_map, fits_len, dec_line, List.replicate, e1, bi_sum, hS.fin, lin]
theorem worth_ok (hS : Sok S) (hw : IsW b w) {l : List T} (hl : ∀ x ∈ l, x ∈ keys b) (hn : l.length ≤ 100) : callAt tab gl W (k + 1) 14 [.dct (wD w), .tup (l.map e)] S = .ok (.int (wor w l), S) := by
  rw [call_lit (tab := tab) (f := 14) (np := 2) (n := 3) rfl]
  have e1 : eachL (part1 (callAt tab gl W k) gl [some (.dct (wD w)), some (.tup (l.map e)), none] (.nm 2) [] (.idx (.idx (.slot 0) (.slot 2)) (.int 1))) (l.map e) S = .ok ((l.map fun x => (wv w x).2).map .int, S) := each_map fun x hx => by
    simp [part1, (hw.at (hl x hx)).1, -su_dct]; rfl
  simp (disch := first | omega | (simp; done) | (simp; omega) | fail "no") [-List.map_map, fits_len, dec_line, List.replicate, e1, bi_sum, hS.fin, wor]
theorem sort_keys (hb : IsB b) : sortedE ((bD b).map (·.1)) = .ok (.lst ((keys b).map e)) := by
  have hk : (keys b).length ≤ 6 := by rw [List.length_map]; exact hb.len
  rw [bD, encD_keys, show (List.map (fun p : T × List Sn => (p.1, eSs p.2)) b).map (·.1) = keys b from by rw [List.map_map]; rfl]
  have := sorted_e d60 (keys b) (by omega)
  rw [st_id hb.asc.up] at this
  exact this
theorem keys_len (hb : IsB b) : (keys b).length ≤ 6 := by rw [List.length_map]; exact hb.len
/-- the sets in order, each of words of the book, none twice -/
theorem allS_sub {U : List T} {n : Nat} {r : Sn} (h : r ∈ allS U n) (hU : Asc U) : Asc r ∧ (∀ x ∈ r, x ∈ U) ∧ r.length < n := by
  obtain ⟨m, h1, h2⟩ := List.mem_flatMap.1 h
  have h1 := List.mem_range.1 h1
  have key : ∀ (m : Nat) (r : Sn), r ∈ lay U m → Asc r ∧ ∀ x ∈ r, x ∈ U := by
    intro m
    induction m with
    | zero => intro r hr; rw [List.mem_singleton.1 hr]; exact ⟨List.Pairwise.nil, by simp⟩
    | succ m ih =>
      intro r hr
      obtain ⟨q, g1, g2⟩ := List.mem_flatMap.1 hr
      obtain ⟨x, g3, rfl⟩ := List.mem_map.1 g2
      obtain ⟨g4, g5⟩ := List.mem_filter.1 g3
      obtain ⟨a1, a2⟩ := ih q g1
      refine ⟨List.pairwise_append.2 ⟨a1, List.pairwise_singleton _ _, fun y hy z hz => ?_⟩, fun y hy => ?_⟩
      · rw [List.mem_singleton.1 hz]
        cases hl : q.getLast? with
        | none => rw [List.getLast?_eq_none_iff.1 hl] at hy; cases hy
        | some u =>
          have hne : q ≠ [] := fun hh => by rw [hh] at hy; cases hy
          rw [hl] at g5
          simp only [hne, decide_false, Bool.false_or] at g5
          obtain ⟨q', rfl⟩ := List.getLast?_eq_some_iff.1 hl
          rcases List.mem_append.1 hy with hy | hy
          · exact Enc.tr _ _ _ ((List.pairwise_append.1 a1).2.2 y hy u (by simp)) g5
          · rw [List.mem_singleton.1 hy]; exact g5
      · rcases List.mem_append.1 hy with hy | hy
        · exact a2 y hy
        · rw [List.mem_singleton.1 hy]; exact g4
  obtain ⟨a1, a2⟩ := key m r h2
  exact ⟨a1, a2, by rw [lay_row h2]; exact h1⟩
/-- every set in order is there -/
theorem lay_all {U : List T} : ∀ (r : Sn), Asc r → (∀ x ∈ r, x ∈ U) → r ∈ lay U r.length := by
  intro r
  induction hn : r.length generalizing r with
  | zero => intro _ _; rw [List.length_eq_zero_iff.1 hn]; exact List.mem_singleton.2 rfl
  | succ n ih =>
    intro ha hs
    have hne : r ≠ [] := fun hh => by rw [hh] at hn; cases hn
    obtain ⟨q, x, rfl⟩ : ∃ q x, r = q ++ [x] := ⟨r.dropLast, r.getLast hne, (List.dropLast_concat_getLast hne).symm⟩
    have hq : q.length = n := by simpa using hn
    have ⟨a1, _, a3⟩ := List.pairwise_append.1 ha
    refine List.mem_flatMap.2 ⟨q, ih q hq a1 fun y hy => hs y (List.mem_append_left _ hy), List.mem_map.2 ⟨x, List.mem_filter.2 ⟨hs x (by simp), ?_⟩, rfl⟩⟩
    cases hl : q.getLast? with
    | none => rw [List.getLast?_eq_none_iff.1 hl]; simp
    | some u =>
      obtain ⟨q', rfl⟩ := List.getLast?_eq_some_iff.1 hl
      have := a3 u (by simp) x (by simp)
      simp [this]
theorem allS_all {U : List T} {r : Sn} (ha : Asc r) (hs : ∀ x ∈ r, x ∈ U) : r ∈ allS U (U.length + 1) := by
  have := nodup_sub_len ha.nodup hs
  exact List.mem_flatMap.2 ⟨r.length, List.mem_range.2 (by omega), lay_all r ha hs⟩
/-- all sets of a book's words -/
def evr (b : Bk) : List Sn := allS (keys b) ((keys b).length + 1)
theorem evr_len (hb : IsB b) : (evr b).length ≤ 400000 := by
  have h1 := allS_le (keys_len hb) (n := (keys b).length + 1) (by have := keys_len hb; omega)
  have h2 := keys_len hb
  have : 46656 * ((keys b).length + 1) ≤ 46656 * 7 := Nat.mul_le_mul_left _ (by omega)
  unfold evr
  omega
theorem evr_sub (hb : IsB b) {r : Sn} (h : r ∈ evr b) : Asc r ∧ (∀ x ∈ r, x ∈ keys b) ∧ r.length ≤ 6 := by
  obtain ⟨a1, a2, a3⟩ := allS_sub h hb.asc
  have := keys_len hb
  exact ⟨a1, a2, by omega⟩
open Classical in
noncomputable def ables (b : Bk) : List Sn := (evr b).filter fun r => decide (cl b r = r)
noncomputable def within (b : Bk) (w : Wr) (m : Int) : List Sn := (ables b).filter fun r => decide (lin w r ≤ m)
theorem ables_len (hb : IsB b) : (ables b).length ≤ 400000 := Nat.le_trans (List.length_filter_le ..) (evr_len hb)
theorem ables_sub (hb : IsB b) {r : Sn} (h : r ∈ ables b) : Asc r ∧ (∀ x ∈ r, x ∈ keys b) ∧ r.length ≤ 6 ∧ cl b r = r := by
  obtain ⟨h1, h2⟩ := List.mem_filter.1 h
  obtain ⟨a1, a2, a3⟩ := evr_sub hb h1
  exact ⟨a1, a2, a3, by simpa using h2⟩
theorem choices_ok (hS : Sok S) (hW : 100 ≤ W) (hb : IsB b) (hw : IsW b w) (m : Int) : callAt tab gl W (k + 4) 15 [.dct (bD b), .dct (wD w), .int m] S = .ok (.lst ((within b w m).map eSn), S) := by
  have hk := keys_len hb
  have hbl := hb.len
  have ha := evr_len hb
  have h1 := alls_ok (W := W) (k := k + 1) hS hk
  rw [← evr] at h1
  have h2 := sort_keys hb
  have e1 : eachL (part1 (callAt tab gl W (k + 3)) gl [some (.dct (bD b)), some (.dct (wD w)), some (.int m), none, none] (.nm 4) [(.cmp .eq (.call 11 [(.slot 0), (.slot 4)]) (.slot 4))] (.slot 4)) ((evr b).map eSn) S = .ok ((ables b).map eSn, S) := each_flt fun r hr => by
    obtain ⟨a1, a2, a3⟩ := evr_sub hb hr
    have h3 := closed_ok (W := W) (k := k) hS hW hb a1.nodup a2
    have h4 := eqTs (cl b r) r
    simp [part1, eSn, h3, h4]
    split <;> rfl
  have hal := ables_len hb
  have e2 : eachL (part1 (callAt tab gl W (k + 3)) gl [some (.dct (bD b)), some (.dct (wD w)), some (.int m), some (.lst ((ables b).map eSn)), none] (.nm 4) [(.cmp .le (.call 13 [(.slot 1), (.slot 4)]) (.slot 2))] (.slot 4)) ((ables b).map eSn) S = .ok ((within b w m).map eSn, S) := each_flt fun r hr => by
    obtain ⟨a1, a2, a3, a4⟩ := ables_sub hb hr
    have h3 := lines_ok (W := W) (k := k + 2) hS hw a2 (by omega)
    simp only [eSn] at h3 ⊢
    by_cases hc : lin w r ≤ m
    · have : ¬ m < lin w r := by omega
      simp [part1, h3, hc, this]
    · have : m < lin w r := by omega
      simp [part1, h3, hc, this]
  have hwl : (within b w m).length ≤ 400000 := Nat.le_trans (List.length_filter_le ..) hal
  rw [call_lit (tab := tab) (f := 15) (np := 3) (n := 5) rfl]
  simp (disch := first | omega | (simp; done) | (simp; omega) | fail "no") [-List.map_map, fits_len, dec_line, List.replicate, h2, h1, e1, e2, hS.fin, sns_cb, sns_imm]
end
end K45
end

section
/-! sizes: the best choice, prices, lots, the next word, the grown choice -/
set_option autoImplicit false
set_option linter.unusedSimpArgs false
set_option linter.unusedVariables false
namespace K45
open Ev Res PV
open Enc (e)
noncomputable def bRows (b : Bk) (w : Wr) (m : Int) : List (Tr Int Int (Tp T)) := (within b w m).map fun r => ⟨-(wor w r), (r.length : Int), ⟨r⟩⟩
noncomputable def bestR (b : Bk) (w : Wr) (m : Int) : Tr Int Int (Tp T) := match bRows b w m with
  | [] => ⟨0, 0, ⟨[]⟩⟩
  | x :: l => mnT x l
theorem cl_nil (b : Bk) : cl b [] = [] := by
  refine List.eq_nil_iff_forall_not_mem.2 fun x hx => ?_
  have := (mem_cl (b := b) (ws := []) (by simp)).1 hx
  exact this.closed (p := fun _ => False) (by simp) (fun _ h => h.elim)
theorem within_ne (b : Bk) (w : Wr) {m : Int} (hm : 0 ≤ m) (hb : IsB b) : ([] : Sn) ∈ within b w m := by
  refine List.mem_filter.2 ⟨List.mem_filter.2 ⟨allS_all List.Pairwise.nil (by simp), by simp [cl_nil]⟩, by simpa [lin] using hm⟩
theorem d3 : Enc.dep (Tr Int Int (Tp T)) ≤ 60 := by decide
section
variable {W k : Nat} {S : Store} {b : Bk} {w : Wr}
theorem best_ok (hS : Sok S) (hW : 100 ≤ W) (hb : IsB b) (hw : IsW b w) {m : Int} (hm : 0 ≤ m) : callAt tab gl W (k + 5) 16 [.dct (bD b), .dct (wD w), .int m] S = .ok (.tup [.int (-(bestR b w m).a), .tup ((bestR b w m).c.l.map e)], S) := by
  have h1 := choices_ok (W := W) (k := k) hS hW hb hw m
  have hwl : (within b w m).length ≤ 400000 := Nat.le_trans (List.length_filter_le ..) (ables_len hb)
  have e1 : eachL (part1 (callAt tab gl W (k + 4)) gl [some (.dct (bD b)), some (.dct (wD w)), some (.int m), none, none] (.nm 4) [] (.tup [(.neg (.call 14 [(.slot 1), (.slot 4)])), (.bi .len [(.slot 4)]), (.slot 4)])) ((within b w m).map eSn) S = .ok ((bRows b w m).map e, S) := each_map fun r hr => by
    obtain ⟨a1, a2, a3, a4⟩ := ables_sub hb (List.mem_filter.1 hr).1
    have h3 := worth_ok (W := W) (k := k + 3) hS hw a2 (by omega)
    simp [part1, eSn, h3, e_tr, e_int, e_tp]
  have hne : bRows b w m ≠ [] := fun hh => by
    have := within_ne b w hm hb
    rw [bRows, List.map_eq_nil_iff] at hh
    rw [hh] at this; cases this
  have hrl : (bRows b w m).length ≤ 400000 := by rw [bRows, List.length_map]; exact hwl
  rw [call_lit (tab := tab) (f := 16) (np := 3) (n := 5) rfl]
  have hbest : bestR b w m = match bRows b w m with | [] => ⟨0, 0, ⟨[]⟩⟩ | x :: l => mnT x l := rfl
  rw [hbest]
  generalize bRows b w m = rs at e1 hne hrl
  cases rs with
  | nil => exact absurd rfl hne
  | cons x l =>
    simp only [List.length_cons] at hrl
    have h5 := bi_min d3 x l
    have h7 : (e (mnT x l).a : PV) = .int (mnT x l).a := rfl
    have h8 : (e (mnT x l).c : PV) = .tup ((mnT x l).c.l.map e) := rfl
    simp only [List.map_cons] at e1
    simp (disch := first | omega | (simp; done) | (simp; omega) | fail "no") [-List.map_map, fits_len, dec_line, List.replicate, h1, e1, h5, hS.fin, h7, h8]
theorem byl_ok (hS : Sok S) (hW : 100 ≤ W) (hb : IsB b) (hw : IsW b w) {n : Nat} (hn : n ≤ 100) : callAt tab gl W (k + 6) 17 [.dct (bD b), .dct (wD w), .int n] S = .ok (.tup (((List.range (n + 1)).map fun (j : Nat) => -(bestR b w j).a).map .int), S) := by
  have hr : rangeL 0 ((n : Int) + 1) 1 = (List.range (n + 1)).map fun (k : Nat) => PV.int k := range_e (n + 1)
  have hsm : small62 ((n : Int) + 1) = true := small_of (by omega) (by omega)
  have hi : ((n : Int) + 1 ≤ 16777216) := by omega
  have e1 : eachL (part1 (callAt tab gl W (k + 5)) gl [some (.dct (bD b)), some (.dct (wD w)), some (.int n), none] (.nm 3) [] (.idx (.call 16 [(.slot 0), (.slot 1), (.slot 3)]) (.int 0))) ((List.range (n + 1)).map fun (k : Nat) => PV.int k) S = .ok (((List.range (n + 1)).map fun (j : Nat) => -(bestR b w j).a).map .int, S) := each_map fun j _ => by
    have := best_ok (W := W) (k := k) hS hW hb hw (m := (j : Int)) (by omega)
    simp [part1, this]
  have hc : cbL S.length (((List.range (n + 1)).map fun (j : Nat) => -(bestR b w j).a).map .int) = true := cbL_int _ _
  have hf := hS.fin (v := .tup (((List.range (n + 1)).map fun (j : Nat) => -(bestR b w j).a).map .int)) (by rw [cb_tup]; exact hc)
  rw [call_lit (tab := tab) (f := 17) (np := 3) (n := 4) rfl]
  have hLl : ((List.range (n + 1)).map fun (j : Nat) => -(bestR b w j).a).length ≤ 101 := by simp; omega
  generalize ((List.range (n + 1)).map fun (j : Nat) => -(bestR b w j).a) = L at e1 hf hLl
  have hL : fitsL (L.map PV.int) = true := fits_len (by rw [List.length_map]; omega)
  simp (disch := first | omega | (simp; done) | (simp; omega) | fail "no") [-List.map_map, fits_len, dec_line, List.replicate, hr, hsm, hi, e1, hL, hf]
theorem price_ok (hS : Sok S) (hW : 100 ≤ W) (hb : IsB b) (hw : IsW b w) {x : T} (hx : x ∈ keys b) : callAt tab gl W (k + 4) 18 [.dct (bD b), .dct (wD w), e x] S = .ok (.int (lin w (cl b [x])), S) := by
  have h1 := closed_ok (W := W) (k := k) hS hW hb (ws := [x]) (by simp) (by simpa using hx)
  have h2 := lines_ok (W := W) (k := k + 2) hS hw (l := cl b [x]) (fun y hy => cl_sub hy) (by have := cl_len hb [x]; omega)
  rw [call_lit (tab := tab) (f := 18) (np := 3) (n := 3) rfl]
  simp only [List.map_cons, List.map_nil] at h1
  simp (disch := first | omega | (simp; done) | (simp; omega) | fail "no") [-List.map_map, fits_len, dec_line, List.replicate, h1, h2, hS.fin]
theorem mustgo_ok (hS : Sok S) (hW : 100 ≤ W) (hb : IsB b) (hw : IsW b w) {x : T} (hx : x ∈ keys b) (m : Int) : callAt tab gl W (k + 5) 19 [.dct (bD b), .dct (wD w), .int m, e x] S = .ok (.bl (decide (m < lin w (cl b [x]))), S) := by
  have h1 := price_ok (W := W) (k := k) hS hW hb hw hx
  rw [call_lit (tab := tab) (f := 19) (np := 4) (n := 4) rfl]
  simp (disch := first | omega | (simp; done) | (simp; omega) | fail "no") [-List.map_map, fits_len, dec_line, List.replicate, h1, hS.fin]
noncomputable def lotsC (b : Bk) : List (Tp T) := (keys b).map fun x => ⟨cl b [x]⟩
theorem lots_ne {t : Tp T} (h : t ∈ lotsC b) : ∃ x m, (e t : PV) = .tup (x :: m) := by
  obtain ⟨x, hx, rfl⟩ := List.mem_map.1 h
  have hm : x ∈ cl b [x] := (mem_cl (by simpa using hx)).2 (.base List.mem_cons_self)
  rw [e_tp]
  cases hc : cl b [x] with
  | nil => rw [hc] at hm; cases hm
  | cons y m => exact ⟨_, _, rfl⟩
theorem lots_sset (hb : IsB b) : ssetE (.lst ((lotsC b).map e)) = .ok (.lst ((sd (lotsC b)).map e)) := by
  have hk := keys_len hb
  have hl : (lotsC b).length ≤ 6 := by rw [lotsC, List.length_map]; exact hk
  have h2 := sd_len (lotsC b)
  exact sset_of (by decide) (lotsC b) (by omega) (fun t ht => lots_ne ht) (by omega)
theorem lots_ok (hS : Sok S) (hW : 100 ≤ W) (hb : IsB b) : callAt tab gl W (k + 4) 20 [.dct (bD b)] S = .ok (.tup ((sd (lotsC b)).map e), S) := by
  have hk := keys_len hb
  have hbl := hb.len
  have hl : (lotsC b).length ≤ 6 := by rw [lotsC, List.length_map]; exact hk
  have h2 := sd_len (lotsC b)
  have e1 : eachL (part1 (callAt tab gl W (k + 3)) gl [some (.dct (bD b)), none] (.nm 1) [] (.call 11 [(.slot 0), (.tup [(.slot 1)])])) ((keys b).map e) S = .ok ((lotsC b).map e, S) := each_map fun x hx => by
    have h1 := closed_ok (W := W) (k := k) hS hW hb (ws := [x]) (by simp) (by simpa using hx)
    simp only [List.map_cons, List.map_nil] at h1
    simp [part1, h1, e_tp]
  have e2 : (bD b).map (·.1) = (keys b).map e := by rw [bD, encD_keys, show (List.map (fun p : T × List Sn => (p.1, eSs p.2)) b).map (·.1) = keys b from by rw [List.map_map]; rfl]
  have h3 : callAt tab gl W (k + 3) 2 [.lst ((lotsC b).map e)] S = .ok (.tup ((sd (lotsC b)).map e), S) := by
    rw [call_lit (tab := tab) (f := 2) (np := 1) (n := 1) rfl]
    have := lots_sset hb
    simp (disch := first | omega | (simp; done) | (simp; omega) | fail "no") [-List.map_map, fits_len, dec_line, List.replicate, this, hS.fin]
  rw [call_lit (tab := tab) (f := 20) (np := 1) (n := 2) rfl]
  simp (disch := first | omega | (simp; done) | (simp; omega) | fail "no") [-List.map_map, fits_len, dec_line, List.replicate, e2, e1, h3, hS.fin]
end
end K45
end

section
/-! sizes: the next word, the grown choice -/
set_option autoImplicit false
set_option linter.unusedSimpArgs false
set_option linter.unusedVariables false
set_option maxHeartbeats 4000000
namespace K45
open Ev Res PV
open Enc (e)
open Classical in
noncomputable def moreOf (b : Bk) (now : List T) (x : T) : List T := (cl b [x]).filter fun y => !decide (y ∈ now)
def frac (a c : Int) : Int × Int := (((a.toNat / Nat.gcd a.toNat c.toNat : Nat) : Int), ((c.toNat / Nat.gcd a.toNat c.toNat : Nat) : Int))
abbrev Best := Option ((Int × Int) × List T)
def bestV : Best → PV
  | none => .non
  | some (f, l) => .tup [e f, .tup (l.map e)]
open Classical in
noncomputable def pickB (told : Int × Int) (mo : List T) : Best → Best
  | none => some (told, mo)
  | some (f, l) => if f.1 * told.2 < told.1 * f.2 then some (told, mo) else some (f, l)
open Classical in
noncomputable def nwStep (b : Bk) (w : Wr) (m : Int) (now : List T) (best : Best) (x : T) : Best :=
  if x ∉ now ∧ lin w (now ++ moreOf b now x) ≤ m then pickB (frac (wor w (moreOf b now x)) (lin w (moreOf b now x))) (moreOf b now x) best else best
noncomputable def nxt (b : Bk) (w : Wr) (m : Int) (now : List T) : Option (List T) := ((keys b).foldl (nwStep b w m now) none).map (·.2)
theorem sum_bd {l : List T} {f : T → Int} {lo hi : Int} (h : ∀ x ∈ l, lo ≤ f x ∧ f x ≤ hi) : lo * l.length ≤ (l.map f).sum ∧ (l.map f).sum ≤ hi * l.length := by
  induction l with
  | nil => simp
  | cons x l ih =>
    have h1 := h x List.mem_cons_self
    have h2 := ih fun y hy => h y (List.mem_cons_of_mem _ hy)
    rw [List.map_cons, List.sum_cons, List.length_cons]
    push_cast
    rw [Int.mul_add, Int.mul_add, Int.mul_one, Int.mul_one]
    constructor <;> omega
section
variable {W k : Nat} {S : Store} {b : Bk} {w : Wr}
theorem lin_bd (hw : IsW b w) {l : List T} (hl : ∀ x ∈ l, x ∈ keys b) : (l.length : Int) ≤ lin w l ∧ lin w l ≤ 5 * l.length := by
  have := sum_bd (l := l) (f := fun x => (wv w x).1) (lo := 1) (hi := 5) fun x hx => ⟨(hw.at (hl x hx)).2.1, (hw.at (hl x hx)).2.2.1⟩
  rw [Int.one_mul] at this
  exact this
theorem wor_bd (hw : IsW b w) {l : List T} (hl : ∀ x ∈ l, x ∈ keys b) : 0 ≤ wor w l ∧ wor w l ≤ 8 * l.length := by
  have := sum_bd (l := l) (f := fun x => (wv w x).2) (lo := 0) (hi := 8) fun x hx => ⟨(hw.at (hl x hx)).2.2.2.1, (hw.at (hl x hx)).2.2.2.2⟩
  rw [Int.zero_mul] at this
  exact this
theorem more_sub {now : List T} {x y : T} (h : y ∈ moreOf b now x) : y ∈ keys b := cl_sub (List.mem_filter.1 h).1
theorem more_len (hb : IsB b) (now : List T) (x : T) : (moreOf b now x).length ≤ 6 := Nat.le_trans (List.length_filter_le ..) (cl_len hb [x])
theorem more_self {now : List T} {x : T} (hx : x ∈ keys b) (hn : x ∉ now) : x ∈ moreOf b now x :=
  List.mem_filter.2 ⟨(mem_cl (by simpa using hx)).2 (.base List.mem_cons_self), by simp [hn]⟩
theorem frac_ok (hS : Sok S) (hW : 100 ≤ W) {a c : Int} (ha : 0 ≤ a) (hc : 0 < c) (hcc : c ≤ 90) : callAt tab gl W (k + 2) 6 [.int a, .int c] S = .ok (e (frac a c), S) := by
  have := fraction_ok (tab := tab) (gl := gl) (W := W) (f := 6) (fn := 5) rfl rfl (k := k) hS a.toNat c.toNat (by omega) (by omega) (by omega)
  rw [Int.toNat_of_nonneg ha, Int.toNat_of_nonneg (by omega)] at this
  exact this
theorem big_of {i : Int} (h0 : 0 ≤ i) (h : i ≤ 1000000) : big64 i = true := decide_eq_true ⟨by omega, by omega⟩
theorem frac_bd {a c : Int} (ha : 0 ≤ a) (hc : 0 ≤ c) : 0 ≤ (frac a c).1 ∧ (frac a c).1 ≤ a ∧ 0 ≤ (frac a c).2 ∧ (frac a c).2 ≤ c := by
  have h1 := Nat.div_le_self a.toNat (Nat.gcd a.toNat c.toNat)
  have h2 := Nat.div_le_self c.toNat (Nat.gcd a.toNat c.toNat)
  unfold frac
  generalize a.toNat / Nat.gcd a.toNat c.toNat = p at h1 ⊢
  generalize c.toNat / Nat.gcd a.toNat c.toNat = q at h2 ⊢
  refine ⟨by simp only []; omega, by simp only []; omega, by simp only []; omega, by simp only []; omega⟩
theorem isless_ok (hS : Sok S) {f g : Int × Int} (h1 : 0 ≤ f.1 ∧ f.1 ≤ 1000) (h2 : 0 ≤ g.1 ∧ g.1 ≤ 1000) : callAt tab gl W (k + 1) 7 [e f, e g] S = .ok (.bl (decide (f.1 * g.2 < g.1 * f.2)), S) := by
  rw [call_lit (tab := tab) (f := 7) (np := 2) (n := 2) rfl]
  have b1 := big_of h1.1 (by omega)
  have b2 := big_of h2.1 (by omega)
  simp (disch := first | omega | (simp; done) | (simp; omega) | fail "no") [-List.map_map, fits_len, dec_line, List.replicate, hS.fin, e_int, b1, b2]
def BestOk (s : Best) : Prop := match s with
  | none => True
  | some (f, l) => 0 ≤ f.1 ∧ f.1 ≤ 1000
theorem nw_loop (hS : Sok S) (hW : 100 ≤ W) (hb : IsB b) (hw : IsW b w) (m : Int) {now : List T} (hn : now.length ≤ 6) (hs : ∀ x ∈ now, x ∈ keys b) : ∃ z5 z6 z7 z8, forL (.nm 5) (bodyB (callAt tab gl W (k + 3)) gl W L_next_word_1) ((keys b).map e)
      [.fz (.dct (bD b)), .fz (.dct (wD w)), .fz (.int m), .fz (.tup (now.map e)), .fz .non, .un, .un, .un, .un] S =
    .ok (.nx, [.fz (.dct (bD b)), .fz (.dct (wD w)), .fz (.int m), .fz (.tup (now.map e)), .fz (bestV ((keys b).foldl (nwStep b w m now) none)), z5, z6, z7, z8], S) := by
  have key := for_fold (S := S) (t := .nm 5) (body := bodyB (callAt tab gl W (k + 3)) gl W L_next_word_1) (en := e) (I := fun (r : List T) (s : Best) env => (∀ x ∈ r, x ∈ keys b) ∧ BestOk s ∧ ∃ z5 z6 z7 z8, env = [.fz (.dct (bD b)), .fz (.dct (wD w)), .fz (.int m), .fz (.tup (now.map e)), .fz (bestV s), z5, z6, z7, z8])
    (nwStep b w m now) ?_ (keys b) none _ ⟨fun _ h => h, trivial, .un, .un, .un, .un, rfl⟩
  · obtain ⟨env1, h1, _, _, z5, z6, z7, z8, rfl⟩ := key
    exact ⟨z5, z6, z7, z8, h1⟩
  · rintro x r s env ⟨hr, hso, z5, z6, z7, z8, rfl⟩
    have hx := hr x List.mem_cons_self
    have hr2 : ∀ y ∈ r, y ∈ keys b := fun y hy => hr y (List.mem_cons_of_mem _ hy)
    have h1 := closed_ok (W := W) (k := k) hS hW hb (ws := [x]) (by simp) (by simpa using hx)
    simp only [List.map_cons, List.map_nil] at h1
    have hml := more_len hb now x
    have hms : ∀ y ∈ now ++ moreOf b now x, y ∈ keys b := fun y hy => (List.mem_append.1 hy).elim (hs y) more_sub
    have h2 := lines_ok (W := W) (k := k + 2) hS hw hms (by rw [List.length_append]; omega)
    rw [List.map_append] at h2
    have h3 := lines_ok (W := W) (k := k + 2) hS hw (l := moreOf b now x) (fun y hy => more_sub hy) (by omega)
    have h4 := worth_ok (W := W) (k := k + 2) hS hw (l := moreOf b now x) (fun y hy => more_sub hy) (by omega)
    have e1 : eachL (part1 (callAt tab gl W (k + 3)) gl [some (.dct (bD b)), some (.dct (wD w)), some (.int m), some (.tup (now.map e)), some (bestV s), some (e x), z6.val, z7.val, z8.val] (.nm 8) [(.cmp .nmem (.slot 8) (.slot 3))] (.slot 8)) ((cl b [x]).map e) S = .ok ((moreOf b now x).map e, S) := each_flt fun y _ => by
      simp [part1, memTt]
      split <;> simp_all
    have h5 := memTt x now
    have hf1 : fitsL ((moreOf b now x).map (e : T → PV)) = true := fits_len (by rw [List.length_map]; omega)
    have hf2 : fitsL (now.map (e : T → PV) ++ (moreOf b now x).map e) = true := fits_len (by rw [List.length_append, List.length_map, List.length_map]; omega)
    by_cases hc : x ∉ now ∧ lin w (now ++ moreOf b now x) ≤ m
    · obtain ⟨hc1, hc2⟩ := hc
      have hc3 : ¬ (m < lin w (now ++ moreOf b now x)) := by omega
      have hself := more_self hx hc1
      have hpos : 0 < (moreOf b now x).length := List.length_pos_of_mem hself
      have lb := lin_bd hw (l := moreOf b now x) fun y hy => more_sub hy
      have wb := wor_bd hw (l := moreOf b now x) fun y hy => more_sub hy
      have h6 := frac_ok (W := W) (k := k + 1) hS hW (a := wor w (moreOf b now x)) (c := lin w (moreOf b now x)) wb.1 (by omega) (by omega)
      have fb := frac_bd (a := wor w (moreOf b now x)) (c := lin w (moreOf b now x)) wb.1 (by omega)
      rw [nwStep, if_pos ⟨hc1, hc2⟩]
      generalize hF : frac (wor w (moreOf b now x)) (lin w (moreOf b now x)) = F at h6 fb
      have hF1 : 0 ≤ F.1 ∧ F.1 ≤ 1000 := ⟨fb.1, by omega⟩
      refine ⟨.nx, [.fz (.dct (bD b)), .fz (.dct (wD w)), .fz (.int m), .fz (.tup (now.map e)), .fz (bestV (pickB F (moreOf b now x) s)), .fz (e x), .fz (.tup ((moreOf b now x).map e)), .fz (e F), z8], ?_, Or.inl rfl, hr2, ?_, _, _, _, _, rfl⟩
      · cases s with
        | none =>
          simp only [bestV] at e1
          simp [-List.map_map, hf1, hf2, h1, e1, h2, h3, h4, h5, h6, hc1, hc3, bestV, pickB]
        | some s =>
          obtain ⟨f, l⟩ := s
          have h7 := isless_ok (W := W) (k := k + 2) hS (f := f) (g := F) hso hF1
          have hN : (bestV (some (f, l))).isNon = false := rfl
          simp only [bestV] at e1 hN
          by_cases hlt : f.1 * F.2 < F.1 * f.2
          · simp [-List.map_map, hf1, hf2, h1, e1, h2, h3, h4, h5, h6, h7, hc1, hc3, bestV, pickB, hlt, hN]
          · simp [-List.map_map, hf1, hf2, h1, e1, h2, h3, h4, h5, h6, h7, hc1, hc3, bestV, pickB, hlt, hN]
      · cases s with
        | none => exact hF1
        | some s =>
          obtain ⟨f, l⟩ := s
          show BestOk (if f.1 * F.2 < F.1 * f.2 then some (F, moreOf b now x) else some (f, l))
          by_cases hlt : f.1 * F.2 < F.1 * f.2
          · rw [if_pos hlt]; exact hF1
          · rw [if_neg hlt]; exact hso
    · rw [nwStep, if_neg hc]
      refine ⟨.nx, [.fz (.dct (bD b)), .fz (.dct (wD w)), .fz (.int m), .fz (.tup (now.map e)), .fz (bestV s), .fz (e x), .fz (.tup ((moreOf b now x).map e)), z7, z8], ?_, Or.inl rfl, hr2, hso, _, _, _, _, rfl⟩
      by_cases hc1 : x ∈ now
      · simp [-List.map_map, hf1, hf2, h1, e1, h5, hc1]
      · have hc2 : m < lin w (now ++ moreOf b now x) := by
          have : ¬ lin w (now ++ moreOf b now x) ≤ m := fun h => hc ⟨hc1, h⟩
          omega
        simp [-List.map_map, hf1, hf2, h1, e1, h2, h5, hc1, hc2]
def optV : Option (List T) → PV
  | none => .non
  | some l => .tup (l.map e)
theorem nw_ok (hS : Sok S) (hW : 100 ≤ W) (hb : IsB b) (hw : IsW b w) (m : Int) {now : List T} (hn : now.length ≤ 6) (hs : ∀ x ∈ now, x ∈ keys b) : callAt tab gl W (k + 4) 21 [.dct (bD b), .dct (wD w), .int m, .tup (now.map e)] S = .ok (optV (nxt b w m now), S) := by
  obtain ⟨z5, z6, z7, z8, h1⟩ := nw_loop (W := W) (k := k) hS hW hb hw m hn hs
  have h2 := sort_keys hb
  rw [call_lit (tab := tab) (f := 21) (np := 4) (n := 9) rfl]
  have hnx : nxt b w m now = ((keys b).foldl (nwStep b w m now) none).map (·.2) := rfl
  rw [hnx]
  generalize (keys b).foldl (nwStep b w m now) none = s at h1
  cases s with
  | none => simp (disch := first | omega | (simp; done) | (simp; omega) | fail "no") [-List.map_map, fits_len, dec_line, List.replicate, h2, h1, hS.fin, bestV, optV]
  | some s =>
    obtain ⟨f, l⟩ := s
    simp only [bestV] at h1
    simp (disch := first | omega | (simp; done) | (simp; omega) | fail "no") [-List.map_map, fits_len, dec_line, List.replicate, h2, h1, hS.fin, bestV, optV]
end
end K45
end

section
/-! sizes: the grown choice, what is a choice -/
set_option autoImplicit false
set_option linter.unusedSimpArgs false
set_option linter.unusedVariables false
namespace K45
open Ev Res PV
open Enc (e)
noncomputable def grF (b : Bk) (w : Wr) (m : Int) (now : List T) : List T := match nxt b w m now with
  | none => now
  | some l => sd (now ++ l)
theorem nxt_some {b : Bk} {w : Wr} {m : Int} {now l : List T} (h : nxt b w m now = some l) : ∃ x ∈ keys b, x ∉ now ∧ l = moreOf b now x := by
  have key : ∀ (r : List T) (s : Best), (∀ x ∈ r, x ∈ keys b) → (∀ f l, s = some (f, l) → ∃ x ∈ keys b, x ∉ now ∧ l = moreOf b now x) → ∀ f l, r.foldl (nwStep b w m now) s = some (f, l) → ∃ x ∈ keys b, x ∉ now ∧ l = moreOf b now x := by
    intro r
    induction r with
    | nil => intro s _ h; exact h
    | cons x r ih =>
      intro s hr hs
      refine ih _ (fun y hy => hr y (List.mem_cons_of_mem _ hy)) fun f l hfl => ?_
      unfold nwStep at hfl
      split at hfl
      · rename_i hc
        cases s with
        | none => cases hfl; exact ⟨x, hr x List.mem_cons_self, hc.1, rfl⟩
        | some s =>
          obtain ⟨f0, l0⟩ := s
          change (if _ < _ then _ else _) = _ at hfl
          split at hfl
          · cases hfl; exact ⟨x, hr x List.mem_cons_self, hc.1, rfl⟩
          · exact hs f l hfl
      · exact hs f l hfl
  unfold nxt at h
  obtain ⟨p, h1, rfl⟩ := Option.map_eq_some_iff.1 h
  exact key (keys b) none (fun _ h => h) (fun f l h => by cases h) p.1 p.2 h1
structure Now (b : Bk) (now : List T) : Prop where
  asc : Asc now
  sub : ∀ x ∈ now, x ∈ keys b
theorem grF_now {b : Bk} {w : Wr} {m : Int} {now : List T} (h : Now b now) : Now b (grF b w m now) := by
  unfold grF
  split
  · exact h
  · rename_i l hl
    obtain ⟨x, h1, h2, rfl⟩ := nxt_some hl
    refine ⟨sd_asc _, fun y hy => ?_⟩
    rcases List.mem_append.1 (mem_sd.1 hy) with hy | hy
    · exact h.sub y hy
    · exact more_sub hy
theorem grF_more {b : Bk} {w : Wr} {m : Int} {now l : List T} (h : Now b now) (hl : nxt b w m now = some l) : now.length < (grF b w m now).length := by
  unfold grF
  rw [hl]
  simp only []
  obtain ⟨x, h1, h2, rfl⟩ := nxt_some hl
  have := nodup_sub_len (l := x :: now) (m := sd (now ++ moreOf b now x)) (List.nodup_cons.2 ⟨h2, h.asc.nodup⟩) fun y hy => by
    rcases List.mem_cons.1 hy with rfl | hy
    · exact mem_sd.2 (List.mem_append_right _ (more_self h1 h2))
    · exact mem_sd.2 (List.mem_append_left _ hy)
  rw [List.length_cons] at this
  omega
noncomputable def grown (b : Bk) (w : Wr) (m : Int) : List T := Nat.repeat (grF b w m) b.length []
theorem now_nil (b : Bk) : Now b [] := ⟨List.Pairwise.nil, by simp⟩
theorem now_len {b : Bk} {now : List T} (hb : IsB b) (h : Now b now) : now.length ≤ b.length := by
  have := nodup_sub_len h.asc.nodup h.sub
  rwa [List.length_map] at this
theorem rep_now {b : Bk} {w : Wr} {m : Int} (n : Nat) : Now b (Nat.repeat (grF b w m) n []) := by
  induction n with
  | zero => exact now_nil b
  | succ n ih => exact grF_now ih
theorem rep_fix {b : Bk} {w : Wr} {m : Int} {k : Nat} (h : nxt b w m (Nat.repeat (grF b w m) k []) = none) : ∀ {n : Nat}, k ≤ n → Nat.repeat (grF b w m) n [] = Nat.repeat (grF b w m) k []
  | 0, hk => by rw [Nat.le_zero.1 hk]
  | n + 1, hk => by
    by_cases he : k = n + 1
    · rw [he]
    · have ih := rep_fix h (n := n) (by omega)
      show grF b w m (Nat.repeat (grF b w m) n []) = _
      rw [ih]
      generalize Nat.repeat (grF b w m) k [] = q at h
      rw [grF, h]
section
variable {W k : Nat} {S : Store} {b : Bk} {w : Wr}
theorem grown_ok (hS : Sok S) (hW : 100 ≤ W) (hb : IsB b) (hw : IsW b w) (m : Int) : callAt tab gl W (k + 5) 22 [.dct (bD b), .dct (wD w), .int m] S = .ok (.tup ((grown b w m).map e), S) := by
  have hbl := hb.len
  have key := while_ret (S := S) (cond := condW (callAt tab gl W (k + 4)) gl (.bl true)) (body := bodyB (callAt tab gl W (k + 4)) gl W L_grown_choice_1)
    (I := fun (s : List T) env => Now b s ∧ ∃ z4, env = [.fz (.dct (bD b)), .fz (.dct (wD w)), .fz (.int m), .fz (.tup (s.map e)), z4])
    (m := fun s => b.length - s.length) (fin := fun s => (nxt b w m s).isNone) (step := grF b w m) (v := fun s => .tup (s.map e)) ?_ ?_ ?_ W [] _ ⟨now_nil b, .un, rfl⟩ (by show b.length - 0 < W; omega)
  · obtain ⟨env1, n, h1, h2, h3⟩ := key
    have h4 := rep_fix (b := b) (w := w) (m := m) (k := n) (Option.isNone_iff_eq_none.1 h2) (n := b.length) (by have : b.length - ([] : List T).length ≤ b.length := Nat.sub_le _ _; omega)
    rw [← h4, ← grown] at h1
    have h1' : whileL (condW (callAt tab gl W (k + 4)) gl (.bl true)) (bodyB (callAt tab gl W (k + 4)) gl W L_grown_choice_1) W [.fz (.dct (bD b)), .fz (.dct (wD w)), .fz (.int m), .fz (.tup []), .un] S = _ := h1
    rw [call_lit (tab := tab) (f := 22) (np := 3) (n := 5) rfl]
    simp [List.replicate, h1', hS.fin]
  · rintro s env ⟨hn, z4, rfl⟩
    simp [condW]
  · rintro s env ⟨hn, z4, rfl⟩ hf
    have hl := now_len hb hn
    have h1 := nw_ok (W := W) (k := k) hS hW hb hw m (now := s) (by omega) hn.sub
    rw [Option.isNone_iff_eq_none.1 hf] at h1
    refine ⟨[.fz (.dct (bD b)), .fz (.dct (wD w)), .fz (.int m), .fz (.tup (s.map e)), .fz .non], ?_⟩
    simp [h1, optV]
  · rintro s env ⟨hn, z4, rfl⟩ hf
    have hl := now_len hb hn
    have h1 := nw_ok (W := W) (k := k) hS hW hb hw m (now := s) (by omega) hn.sub
    obtain ⟨l, hl2⟩ : ∃ l, nxt b w m s = some l := Option.isSome_iff_exists.1 (by simpa using hf)
    have hlt := grF_more hn hl2
    have hn2 := grF_now (w := w) (m := m) hn
    have hl3 := now_len hb hn2
    have hg : grF b w m s = sd (s ++ l) := by rw [grF, hl2]
    obtain ⟨x, _, _, hlx⟩ := nxt_some hl2
    have hll : l.length ≤ 6 := by rw [hlx]; exact more_len hb s x
    rw [hl2] at h1
    have h2 := set_Tt (W := W) (k := k + 3) hS (s ++ l) (by rw [List.length_append]; omega)
    rw [← hg] at h2
    have hf2 : fitsL (s.map (e : T → PV) ++ l.map e) = true := fits_len (by rw [List.length_append, List.length_map, List.length_map]; omega)
    rw [List.map_append] at h2
    refine ⟨.nx, [.fz (.dct (bD b)), .fz (.dct (wD w)), .fz (.int m), .fz (.tup ((grF b w m s).map e)), .fz (.tup (l.map e))], ?_, Or.inl rfl, ⟨hn2, _, rfl⟩, by omega⟩
    simp [h1, optV, hf2, h2]
open Classical in
/-- what is a choice -/
noncomputable def choice (b : Bk) (l : List T) : Bool := decide ((∀ x ∈ l, nmS x.s = true) ∧ Asc l ∧ (∀ x ∈ l, x ∈ keys b) ∧ cl b l = l)
theorem glz : gl 0 = some (.str letters) := rfl
theorem nm_all {l : List T} (hl : ∀ x ∈ l, x.s.length ≤ 1000) (hn : l.length ≤ 100) (hS : Sok S) : callAt tab gl W (k + 2) 8 [.tup (l.map e)] S = .ok (.bl (l.all fun x => nmS x.s), S) := by
  have := isrow_tup (tab := tab) (gl := gl) (W := W) (f := 8) (fn := 0) (k := k + 1) rfl hS (l := l.map e) (by rw [List.length_map]; omega) nmV fun v hv => by
    obtain ⟨x, hx, rfl⟩ := List.mem_map.1 hv
    exact isname_str (tab := tab) (gl := gl) rfl glz hS x.s (hl x hx)
  rw [List.all_map] at this
  exact this
theorem ischoice_ok (hS : Sok S) (hW : 100 ≤ W) (hb : IsB b) {l : List T} (hl : ∀ x ∈ l, x.s.length ≤ 1000) (hn : l.length ≤ 100) : callAt tab gl W (k + 4) 12 [.dct (bD b), .tup (l.map e)] S = .ok (.bl (choice b l), S) := by
  have h1 := nm_all (W := W) (k := k) hl hn hS
  have h2 := isasc_t (tab := tab) (gl := gl) (W := W) (f := 1) rfl (k := k + 1) hS d60 l (by omega)
  have h3 : callAt tab gl W (k + 3) 9 [.tup (l.map e)] S = .ok (.bl ((l.all fun x => nmS x.s) && decide (Asc l)), S) := by
    rw [call_lit (tab := tab) (f := 9) (np := 1) (n := 1) rfl]
    cases hc : (l.all fun x => nmS x.s) with
    | true => simp [List.replicate, h1, h2, hS.fin, hc]
    | false => simp [List.replicate, h1, h2, hS.fin, hc]
  have hu : choice b l = ((l.all fun x => nmS x.s) && decide (Asc l) && ((l.map fun x => decide (x ∈ keys b)).all id && @decide (cl b l = l) (Classical.propDecidable _))) := by
    unfold choice
    refine Bool.eq_iff_iff.2 ?_
    simp only [decide_eq_true_eq, Bool.and_eq_true, List.all_eq_true, List.mem_map, forall_exists_index, and_imp, forall_apply_eq_imp_iff₂, id]
    constructor
    · rintro ⟨a1, a2, a3, a4⟩; exact ⟨⟨a1, a2⟩, a3, a4⟩
    · rintro ⟨⟨a1, a2⟩, a3, a4⟩; exact ⟨a1, a2, a3, a4⟩
  have e1 : eachL (part1 (callAt tab gl W (k + 3)) gl [some (.dct (bD b)), some (.tup (l.map e)), none] (.nm 2) [] (.cmp .mem (.slot 2) (.slot 0))) (l.map e) S = .ok ((l.map fun x => decide (x ∈ keys b)).map .bl, S) := each_map fun x _ => by
    simp [part1, memB, -List.mem_map]
  have e2 := all_ok (l.map fun x => decide (x ∈ keys b))
  have hfit : fitsL ((l.map fun x => decide (x ∈ keys b)).map PV.bl) = true := fits_len (by rw [List.length_map, List.length_map]; omega)
  rw [call_lit (tab := tab) (f := 12) (np := 2) (n := 3) rfl, hu]
  generalize hB : (l.map fun x => decide (x ∈ keys b)) = B at e1 e2 hfit
  cases hc : ((l.all fun x => nmS x.s) && decide (Asc l)) with
  | false =>
    rw [hc] at h3
    simp [-List.map_map, List.replicate, h3, hS.fin]
  | true =>
    rw [hc] at h3
    cases hc2 : B.all id with
    | false =>
      rw [hc2] at e2
      simp [-List.map_map, -bi_all, List.replicate, h3, hS.fin, e1, e2, hfit]
    | true =>
      rw [hc2] at e2
      have ha : Asc l := by simp only [Bool.and_eq_true, decide_eq_true_eq] at hc; exact hc.2
      have hk : ∀ x ∈ l, x ∈ keys b := fun x hx => by
        rw [← hB, List.all_eq_true] at hc2
        have := hc2 _ (List.mem_map_of_mem hx)
        simpa using this
      have h4 := closed_ok (W := W) (k := k) hS hW hb ha.nodup hk
      have h5 := eqTs (cl b l) l
      simp [-List.map_map, -bi_all, List.replicate, h3, hS.fin, e1, e2, hfit, h4, h5]
end
end K45
end

section
/-! sizes: the law's own defs -/
set_option autoImplicit false
set_option linter.unusedSimpArgs false
set_option linter.unusedVariables false
namespace K45
open Ev Res PV
open Enc (e)
/-- one turn over all that is found -/
def turnC (b : Bk) (l : List T) : List T := l.foldl (fun f x => sd (f ++ nx b x)) l
theorem turn_mem (b : Bk) : ∀ (l acc : List T) (y : T), y ∈ l.foldl (fun f x => sd (f ++ nx b x)) acc ↔ y ∈ acc ∨ ∃ x ∈ l, y ∈ nx b x
  | [], acc, y => by simp
  | x :: l, acc, y => by
    rw [List.foldl_cons, turn_mem b l, mem_sd, List.mem_append]
    simp [or_assoc]
theorem turn_asc (b : Bk) : ∀ (l acc : List T), Asc acc → Asc (l.foldl (fun f x => sd (f ++ nx b x)) acc)
  | [], acc, h => h
  | x :: l, acc, h => turn_asc b l _ (sd_asc _)
theorem turns_cl {b : Bk} {ws : List T} (ha : Asc ws) (hws : ∀ w ∈ ws, w ∈ keys b) : Nat.repeat (turnC b) b.length ws = cl b ws := by
  have hA : ∀ n, Asc (Nat.repeat (turnC b) n ws) := fun n => by
    induction n with
    | zero => exact ha
    | succ n ih => exact turn_asc b _ _ ih
  refine asc_eq (hA _) clo_asc fun x => ?_
  rw [mem_cl hws]
  exact iter_end (nx := nx b) (S0 := ws) (U := keys b) (fun x hx => hx.sub hws fun y _ z hz => nx_sub hz)
    (fun l hl => by
      have key : ∀ (m acc : List T), acc.Nodup → (m.foldl (fun f x => sd (f ++ nx b x)) acc).Nodup := fun m => by
        induction m with
        | nil => intro acc h; exact h
        | cons x m ih => intro acc h; exact ih _ (sd_nodup _)
      exact key l l hl)
    (fun l x hx => (turn_mem b l l x).2 (Or.inl hx)) (fun l x hx y hy => (turn_mem b l l y).2 (Or.inr ⟨x, hx, hy⟩))
    (fun l hl x hx => by
      rcases (turn_mem b l l x).1 hx with h | ⟨y, h1, h2⟩
      · exact hl x h
      · exact .step (hl y h1) h2) ha.nodup (by rw [List.length_map]; exact Nat.le_refl _)
section
variable {k : Nat} {S : Store} {b : Bk} {w : Wr}
theorem used_ok (hS : Sok S) (hb : IsB b) {x : T} (hx : x ∈ keys b) : callAt tab gl 1000 (k + 1) 29 [.dct (bD b), e x] S = .ok (.lst ((us b x).map e), S) := by
  have hfl := hb.flat hx
  have e3 := subB hx
  rw [eSs] at e3
  have hss := hb.ss _ (sns_mem hx)
  rw [us]
  have hp : ∀ (ss : List Sn) (acc : List T) (z3 : Sl), acc.length + 3 * ss.length ≤ 100 → (∀ s ∈ ss, s.length ≤ 3) → ∃ y3, forL (.nm 3) (bodyB (callAt tab gl 1000 k) gl 1000 L_law_used_1) (ss.map eSn) [.fz (.dct (bD b)), .fz (e x), .ow (.lst (acc.map e)), z3] S =
      .ok (.nx, [.fz (.dct (bD b)), .fz (e x), .ow (.lst ((acc ++ ss.flatten).map e)), y3], S) := by
    intro ss
    induction ss with
    | nil => intro acc z3 _ _; exact ⟨z3, by simp⟩
    | cons s ss ih =>
      intro acc z3 h1 h2
      rw [List.length_cons] at h1
      have h3 := h2 s List.mem_cons_self
      obtain ⟨y3, h4⟩ := ih (acc ++ s) (.fz (eSn s)) (by rw [List.length_append]; omega) fun t ht => h2 t (List.mem_cons_of_mem _ ht)
      refine ⟨y3, ?_⟩
      rw [List.flatten_cons, ← List.append_assoc, ← h4, List.map_cons, for_cons]
      have hf1 : fitsL (s.map (e : T → PV)) = true := fits_len (by rw [List.length_map]; omega)
      have hf2 : fitsL (acc.map (e : T → PV) ++ s.map e) = true := fits_len (by rw [List.length_append, List.length_map, List.length_map]; omega)
      have hv : (Sl.fz (eSn s)).val = some (.tup (s.map e)) := rfl
      simp [-List.map_map, hf1, hf2, hv]
  have hs1 : (snsOf b x).length ≤ 2 := hss.1
  obtain ⟨y3, h1⟩ := hp (snsOf b x) [] .un (by simp only [List.length_nil]; omega) hss.2
  simp only [List.map_nil, List.nil_append] at h1
  generalize (snsOf b x).flatten = l at h1 hfl
  have h2 := sset_e d0 l (by omega) (Or.inl rfl)
  have h3 := sd_len l
  rw [call_lit (tab := tab) (f := 29) (np := 2) (n := 4) rfl]
  simp [-List.map_map, List.replicate, e3, h1, h2, hS.fin, -su_dct]
theorem lclosed_ok (hS : Sok S) (hb : IsB b) {ws : List T} (ha : Asc ws) (hws : ∀ x ∈ ws, x ∈ keys b) : callAt tab gl 1000 (k + 2) 31 [.dct (bD b), .tup (ws.map e)] S = .ok (.tup ((cl b ws).map e), S) := by
  have hbl := hb.len
  have hwl : ws.length ≤ b.length := now_len hb ⟨ha, hws⟩
  -- the inner loop
  have hin : ∀ (l acc : List T) (q z4 z5 : Sl) (z3 : Sl), (∀ x ∈ l, x ∈ keys b) → (∀ x ∈ acc, x ∈ keys b) → acc.Nodup → q.val = some (.lst (acc.map e)) → ∃ q' y4 y5, forL (.nm 4) (bodyB (callAt tab gl 1000 (k + 1)) gl 1000 L_law_closed_2) (l.map e) [.fz (.dct (bD b)), .fz (.tup (ws.map e)), q, z3, z4, z5] S =
      .ok (.nx, [.fz (.dct (bD b)), .fz (.tup (ws.map e)), q', z3, y4, y5], S) ∧ q'.val = some (.lst ((l.foldl (fun f x => sd (f ++ nx b x)) acc).map e)) := by
    intro l
    induction l with
    | nil => intro acc q z4 z5 z3 _ _ _ hq; exact ⟨q, z4, z5, by simp, hq⟩
    | cons x l ih =>
      intro acc q z4 z5 z3 hl hacc hnd hq
      have hx := hl x List.mem_cons_self
      have hal : acc.length ≤ 6 := by
        have := nodup_sub_len hnd hacc
        rw [List.length_map] at this; omega
      have h4 : (us b x).length ≤ 6 := Nat.le_trans (sd_len _) (hb.flat hx)
      have h5 : (nx b x).length ≤ 6 := Nat.le_trans (List.length_filter_le ..) h4
      have hsub : ∀ y ∈ sd (acc ++ nx b x), y ∈ keys b := fun y hy => (List.mem_append.1 (mem_sd.1 hy)).elim (hacc y) nx_sub
      obtain ⟨q', y4, y5, h1, h2⟩ := ih (sd (acc ++ nx b x)) (.ow (.lst ((sd (acc ++ nx b x)).map e))) (.fz (e x)) z5 z3 (fun y hy => hl y (List.mem_cons_of_mem _ hy)) hsub (sd_nodup _) rfl
      refine ⟨q', y4, y5, ?_, by rw [List.foldl_cons]; exact h2⟩
      rw [← h1, List.map_cons, for_cons]
      have h6 := used_ok (k := k) hS hb hx
      have e1 : eachL (part1 (callAt tab gl 1000 (k + 1)) gl [some (.dct (bD b)), some (.tup (ws.map e)), some (.lst (acc.map e)), z3.val, some (e x), z5.val] (.nm 5) [(.cmp .mem (.slot 5) (.slot 0))] (.slot 5)) ((us b x).map e) S = .ok ((nx b x).map e, S) := by
        refine each_flt fun y _ => ?_
        have := memB y b
        by_cases c1 : y ∈ keys b <;> simp only [c1, decide_true, decide_false] at this ⊢ <;> simp [part1, this]
      have h7 := sset_e d0 (acc ++ nx b x) (by rw [List.length_append]; omega) (Or.inl rfl)
      rw [List.map_append] at h7
      have hf1 : fitsL ((nx b x).map (e : T → PV)) = true := fits_len (by rw [List.length_map]; omega)
      have hf2 : fitsL (acc.map (e : T → PV) ++ (nx b x).map e) = true := fits_len (by rw [List.length_append, List.length_map, List.length_map]; omega)
      simp [-List.map_map, hq, h6, e1, hf1, hf2, h7]
  have key := for_fold (S := S) (t := .nm 3) (body := bodyB (callAt tab gl 1000 (k + 1)) gl 1000 L_law_closed_1) (en := fun (k : Nat) => PV.int k)
    (I := fun (r : List Nat) (f : List T) env => Now b f ∧ ∃ q z3 z4 z5, q.val = some (.lst (f.map e)) ∧ env = [.fz (.dct (bD b)), .fz (.tup (ws.map e)), q, z3, z4, z5])
    (fun f _ => turnC b f) ?_ (List.range b.length) ws _ ⟨⟨ha, hws⟩, .ow (.lst (ws.map e)), .un, .un, .un, rfl, rfl⟩
  · obtain ⟨env1, h1, _, q, z3, z4, z5, hq, rfl⟩ := key
    rw [fold_repeat, List.length_range, turns_cl ha hws] at hq
    have h2 := sset_t d0 ws (by omega) (Or.inl rfl)
    rw [sd_id ha] at h2
    have h3 := cl_len hb ws
    have hf : fitsL ((cl b ws).map (e : T → PV)) = true := fits_len (by rw [List.length_map]; omega)
    have hi : ((b.length : Int) ≤ 16777216) := by omega
    have hlen : (bD b).length = b.length := by simp [bD]
    rw [call_lit (tab := tab) (f := 31) (np := 2) (n := 6) rfl]
    simp [-List.map_map, List.replicate, h2, hlen, small_nat (by omega : b.length ≤ 16777216), hi, range_e, h1, hq, hf, hS.fin]
  · rintro x r f env ⟨hf, q, z3, z4, z5, hq, rfl⟩
    obtain ⟨q', y4, y5, h1, h2⟩ := hin f f (q.freeze) z4 z5 (.fz (.int x)) hf.sub hf.sub hf.asc.nodup (by rw [freeze_val]; exact hq)
    refine ⟨.nx, [.fz (.dct (bD b)), .fz (.tup (ws.map e)), q', .fz (.int x), y4, y5], ?_, Or.inl rfl, ⟨turn_asc b f f hf.asc, fun y hy => ?_⟩, q', _, _, _, h2, rfl⟩
    · simp [-List.map_map, hq, h1]
    · rcases (turn_mem b f f y).1 hy with h | ⟨z, _, h⟩
      · exact hf.sub y h
      · exact nx_sub h
theorem lsets_ok (hS : Sok S) {U : List T} (hU : U.length ≤ 6) : callAt tab gl 1000 (k + 1) 30 [.tup (U.map e)] S = .ok (.lst ((allS U (U.length + 1)).map eSn), S) := by
  -- one layer
  have hin : ∀ (j : Nat), j ≤ 5 → ∀ (l acc : List Sn) (z1 z5 z6 q2 q3 : Sl), (∀ r ∈ l, r.length = j) → acc.length + 6 * l.length ≤ 1000000 → ∃ y5 y6, forL (.nm 5) (bodyB (callAt tab gl 1000 k) gl 1000 L_law_sets_2) (l.map eSn) [.fz (.tup (U.map e)), z1, q2, q3, .ow (.lst (acc.map eSn)), z5, z6] S =
      .ok (.nx, [.fz (.tup (U.map e)), z1, q2, q3, .ow (.lst ((acc ++ l.flatMap (more U)).map eSn)), y5, y6], S) := by
    intro j hj l
    induction l with
    | nil => intro acc z1 z5 z6 q2 q3 _ _; exact ⟨z5, z6, by simp⟩
    | cons r l ih =>
      intro acc z1 z5 z6 q2 q3 hl hlen
      rw [List.length_cons] at hlen
      have hr := hl r List.mem_cons_self
      have hml : (more U r).length ≤ 6 := by rw [more, List.length_map]; exact Nat.le_trans (List.length_filter_le ..) hU
      obtain ⟨y5, y6, h1⟩ := ih (acc ++ more U r) z1 (.fz (eSn r)) z6.freeze q2 q3 (fun t ht => hl t (List.mem_cons_of_mem _ ht)) (by rw [List.length_append]; omega)
      refine ⟨y5, y6, ?_⟩
      rw [List.flatMap_cons, ← List.append_assoc, ← h1, List.map_cons, for_cons]
      have e1 := more_each (cf := callAt tab gl 1000 k) (S := S) (U := U) (row := r) (i := 5) (j := 6) (env := [some (.tup (U.map e)), z1.val, q2.val, q3.val, some (.lst (acc.map eSn)), some (eSn r), z6.val]) (by decide) (by simp) (by simp) rfl (by omega)
      have hf1 : fitsL ((more U r).map eSn) = true := fits_len (by rw [List.length_map]; omega)
      have hf2 : fitsL (acc.map eSn ++ (more U r).map eSn) = true := fits_len (by rw [List.length_append, List.length_map, List.length_map]; omega)
      have hfr : (Sl.fz (eSn r)).freeze = .fz (eSn r) := rfl
      simp [-List.map_map, e1, hf1, hf2, hfr]
  have key := for_fold (S := S) (t := .nm 1) (body := bodyB (callAt tab gl 1000 k) gl 1000 L_law_sets_1) (en := fun (k : Nat) => PV.int k)
    (I := fun (r : List Nat) (j : Nat) env => j + r.length ≤ 6 ∧ ∃ z1 z4 z5 z6 q3, q3.val = some (.lst ((lay U j).map eSn)) ∧ env = [.fz (.tup (U.map e)), z1, .ow (.lst ((allS U (j + 1)).map eSn)), q3, z4, z5, z6])
    (fun j _ => j + 1) ?_ (List.range U.length) 0 _ ⟨by simpa using hU, .un, .un, .un, .un, .ow (.lst [.tup []]), rfl, rfl⟩
  · obtain ⟨env1, h1, _, z1, z4, z5, z6, q3, _, rfl⟩ := key
    rw [fold_repeat, List.length_range] at h1
    have : ∀ n : Nat, Nat.repeat (fun j => j + 1) n 0 = n := fun n => by
      induction n with
      | zero => rfl
      | succ n ih => show Nat.repeat (fun j => j + 1) n 0 + 1 = _; rw [ih]
    rw [this] at h1
    have h1' : forL (.nm 1) (bodyB (callAt tab gl 1000 k) gl 1000 L_law_sets_1) ((List.range U.length).map fun (k : Nat) => PV.int k) [.fz (.tup (U.map e)), .un, .ow (.lst [.tup []]), .ow (.lst [.tup []]), .un, .un, .un] S = _ := h1
    have hi : ((U.length : Int) ≤ 16777216) := by omega
    rw [call_lit (tab := tab) (f := 30) (np := 1) (n := 7) rfl]
    simp [-List.map_map, List.replicate, small_nat (by omega : U.length ≤ 16777216), hi, range_e, h1', hS.fin]
  · rintro x r j env ⟨hl, z1, z4, z5, z6, q3, hq3, rfl⟩
    rw [List.length_cons] at hl
    have hrl : ∀ t ∈ lay U j, t.length = j := fun t ht => lay_row ht
    have hln := lay_le hU (n := j) (by omega)
    have hln2 := lay_le hU (n := j + 1) (by omega)
    have hal := allS_le hU (n := j + 1 + 1) (by omega)
    obtain ⟨y5, y6, h1⟩ := hin j (by omega) (lay U j) [] (.fz (.int x)) z5 z6 (.ow (.lst ((allS U (j + 1)).map eSn))) q3.freeze hrl (by simp only [List.length_nil]; omega)
    simp only [List.map_nil, List.nil_append] at h1
    rw [show (lay U j).flatMap (more U) = lay U (j + 1) from rfl] at h1
    refine ⟨.nx, [.fz (.tup (U.map e)), .fz (.int x), .ow (.lst ((allS U (j + 1 + 1)).map eSn)), .fz (.lst ((lay U (j + 1)).map eSn)), .fz (.lst ((lay U (j + 1)).map eSn)), y5, y6], ?_, Or.inl rfl, by omega, _, _, _, _, .fz (.lst ((lay U (j + 1)).map eSn)), rfl, rfl⟩
    rw [allS_succ U (j + 1), List.map_append]
    have hf2 : fitsL ((allS U (j + 1)).map eSn ++ (lay U (j + 1)).map eSn) = true := fits_len (by rw [← List.map_append, ← allS_succ, List.length_map]; omega)
    simp [-List.map_map, hq3, h1, hf2]
end
end K45
end

section
/-! sizes: the law's books -/
set_option autoImplicit false
set_option linter.unusedSimpArgs false
set_option linter.unusedVariables false
namespace K45
open Ev Res PV
open Enc (e)
theorem memSn (s : Sn) (l : List Sn) : memE (eSn s) (.lst (l.map eSn)) = .ok (decide (s ∈ l)) := by
  have := mem_lst (α := Tp T) (by decide) ⟨s⟩ (l.map fun s => ⟨s⟩)
  rw [List.map_map] at this
  have h2 : (l.map ((e : Tp T → PV) ∘ fun s => ⟨s⟩)) = l.map eSn := rfl
  rw [h2] at this
  have h3 : (decide ((⟨s⟩ : Tp T) ∈ l.map fun s => ⟨s⟩)) = decide (s ∈ l) := by
    refine decide_eq_decide.2 ?_
    simp
  rw [h3] at this
  exact this
def W6 : List T := [⟨[97, 110, 116]⟩, ⟨[98, 101, 101]⟩, ⟨[99, 97, 116]⟩, ⟨[100, 111, 103]⟩, ⟨[101, 108, 107]⟩, ⟨[102, 111, 120]⟩]
def free5 : List T := [⟨[103, 110, 117]⟩, ⟨[104, 101, 110]⟩, ⟨[105, 109, 112]⟩, ⟨[106, 97, 121]⟩, ⟨[107, 105, 100]⟩]
theorem W6_asc : Asc W6 := by unfold Asc; decide
theorem W6_nm : ∀ w ∈ W6, nmS w.s = true ∧ w.s.length ≤ 10 := by decide
section
variable {k : Nat} {S : Store}
theorem pick_w (hS : Wst S) {l : List T} (h0 : l ≠ []) (hl : l.length ≤ 1000) : ∃ (x : T) (S' : Store), x ∈ l ∧ callAt tab gl 1000 (k + 2) 25 [.cel 0, .lst (l.map e)] S = .ok (e x, S') ∧ Wst S' :=
  pick_l (tab := tab) (gl := gl) (W := 1000) (f := 25) (fn := 24) rfl rfl (k := k) hS e (fun x => cb_e 1 x) h0 (by omega)
theorem next_w (hS : Wst S) {m : Int} (hm : 0 < m) : ∃ i S', callAt tab gl 1000 (k + 1) 24 [.cel 0, .int m] S = .ok (.int i, S') ∧ 0 ≤ i ∧ i < m ∧ Wst S' := next_ok (tab := tab) (gl := gl) (W := 1000) (f := 24) rfl (k := k) hS hm
/-- 1 + a draw, as a range -/
theorem rng1 (i : Int) (h0 : 0 ≤ i) : rangeL 0 (1 + i) 1 = (List.range (i.toNat + 1)).map fun (k : Nat) => PV.int k := by
  rw [rangeL_up]; congr 2; omega
theorem sense_ok (hS : Wst S) {wds : List T} (hw : wds.length ≤ 6) {z5 z6 z7 z8 z9 z10 : Sl} : ∃ (s : Sn) (S' : Store), evE (callAt tab gl 1000 (k + 2)) gl (vals [.fz (.cel 0), .fz (.int 6), .fz (.int 2), .fz (.tup (free5.map e)), .fz (.lst (wds.map e)), z5, z6, z7, z8, z9, z10]) (.bi .tuple [(.comp [.mk (.nm 10) (.rng [(.bin .add (.int 1) (.call 24 [(.slot 0), (.int 3)]))]) []] (.call 25 [(.slot 0), (.bin .add (.slot 4) (.bi .list [(.slot 3)]))]))]) S = .ok (eSn s, S') ∧ s.length ≤ 3 ∧ Wst S' := by
  obtain ⟨i, S1, h1, h2, h3, h4⟩ := next_w (k := k + 1) hS (m := 3) (by omega)
  have hf5 : free5.length = 5 := rfl
  have hne : wds ++ free5 ≠ [] := by simp [free5]
  obtain ⟨s, S2, e1, e2, e3⟩ := each_st (en := fun (k : Nat) => PV.int k) (en' := e) (f := part1 (callAt tab gl 1000 (k + 2)) gl [some (.cel 0), some (.int 6), some (.int 2), some (.tup (free5.map e)), some (.lst (wds.map e)), z5.val, z6.val, z7.val, z8.val, z9.val, z10.val] (.nm 10) [] (.call 25 [(.slot 0), (.bin .add (.slot 4) (.bi .list [(.slot 3)]))]))
    (I := fun (r : List Nat) (l : List T) S => Wst S ∧ l.length + r.length ≤ 3) (fun x r l S ⟨a1, a2⟩ => by
      obtain ⟨y, S1, b1, b2, b3⟩ := pick_w (k := k) a1 hne (by rw [List.length_append]; omega)
      rw [List.map_append] at b2
      rw [List.length_cons] at a2
      have g1 : fitsL (free5.map (e : T → PV)) = true := rfl
      have g2 : fitsL (wds.map (e : T → PV) ++ free5.map e) = true := fits_len (by rw [List.length_append, List.length_map, List.length_map]; omega)
      exact ⟨[y], S1, by simp [-List.map_map, part1, g1, g2, b2], b3, by rw [List.length_append, List.length_singleton]; omega⟩) (List.range (i.toNat + 1)) [] S1 ⟨h4, by simp; omega⟩
  simp only [List.nil_append, List.length_nil, Nat.add_zero] at e3
  refine ⟨s, S2, ?_, e3, e2⟩
  have hs : small62 (1 + i) = true := small_of (by omega) (by omega)
  have hi : (1 + i ≤ 16777216) := by omega
  have hf : fitsL (s.map (e : T → PV)) = true := fits_len (by rw [List.length_map]; omega)
  simp [-List.map_map, h1, hs, hi, rng1 i h2, e1, hf, eSn]
theorem bD_put {b : Bk} {x : T} {ss : List Sn} (h : x ∉ keys b) : dPut (bD b) (e x) (eSs ss) = bD (b ++ [(x, ss)]) := by
  rw [bD, put_e, putT_new (by rw [List.map_map]; exact h), bD, List.map_append]; rfl
theorem book_ok (hS : Wst S) : ∃ (b : Bk) (S' : Store), callAt tab gl 1000 (k + 3) 28 [.cel 0, .int 6, .int 2, .tup (free5.map e)] S = .ok (.dct (bD b), S') ∧ IsB b ∧ (∃ n, keys b = W6.take n) ∧ Wst S' := by
  obtain ⟨n, S0, hn1, hn2, hn3, hS0⟩ := next_w (k := k + 1) hS (m := 7) (by omega)
  generalize hwd : W6.take n.toNat = wds
  have hwl : wds.length ≤ 6 := by rw [← hwd, List.length_take]; exact Nat.min_le_right _ _
  have hwa : Asc wds := by rw [← hwd]; exact List.Pairwise.sublist (List.take_sublist _ _) W6_asc
  -- the senses of a word
  have hrows : ∀ (r : List Nat) (rows : List Sn) (z5 z6 z9 z10 q8 : Sl) (q : Sl) (S : Store), Wst S → q.val = some (.lst (rows.map eSn)) → rows.length + r.length ≤ 2 → (∀ s ∈ rows, s.length ≤ 3) → ∃ (rows' : List Sn) (q' y8 y9 y10 : Sl) (S' : Store),
      forL (.nm 8) (bodyB (callAt tab gl 1000 (k + 2)) gl 1000 L_law_book_2) (r.map fun (k : Nat) => PV.int k) [.fz (.cel 0), .fz (.int 6), .fz (.int 2), .fz (.tup (free5.map e)), .fz (.lst (wds.map e)), z5, z6, q, q8, z9, z10] S =
      .ok (.nx, [.fz (.cel 0), .fz (.int 6), .fz (.int 2), .fz (.tup (free5.map e)), .fz (.lst (wds.map e)), z5, z6, q', y8, y9, y10], S') ∧ Wst S' ∧ q'.val = some (.lst (rows'.map eSn)) ∧ rows'.length ≤ 2 ∧ ∀ s ∈ rows', s.length ≤ 3 := by
    intro r
    induction r with
    | nil => intro rows z5 z6 z9 z10 q8 q S hS hq hl hs; exact ⟨rows, q, q8, z9, z10, S, by simp, hS, hq, by simpa using hl, hs⟩
    | cons x r ih =>
      intro rows z5 z6 z9 z10 q8 q S hS hq hl hs
      rw [List.length_cons] at hl
      obtain ⟨s, S1, h1, h2, h3⟩ := sense_ok (k := k) hS hwl (z5 := z5) (z6 := z6) (z7 := q) (z8 := .fz (.int x)) (z9 := z9) (z10 := z10)
      have himm : (eSn s).imm = true := by simp [eSn]
      have hmk (c : CE) : mkSl c (eSn s) = .fz (eSn s) := by simp [eSn]
      have hm := memSn s rows
      have hst : evS (callAt tab gl 1000 (k + 2)) gl 1000 [.fz (.cel 0), .fz (.int 6), .fz (.int 2), .fz (.tup (free5.map e)), .fz (.lst (wds.map e)), z5, z6, q, .fz (.int x), z9, z10] (.set 9 (.bi .tuple [(.comp [.mk (.nm 10) (.rng [(.bin .add (.int 1) (.call 24 [(.slot 0), (.int 3)]))]) []] (.call 25 [(.slot 0), (.bin .add (.slot 4) (.bi .list [(.slot 3)]))]))])) S = .ok (.nx, [.fz (.cel 0), .fz (.int 6), .fz (.int 2), .fz (.tup (free5.map e)), .fz (.lst (wds.map e)), z5, z6, q, .fz (.int x), .fz (eSn s), z10], S1) := by
        rw [s_set, h1, ok_bind]
        simp only [dem_def, himm, hmk, if_true, List.set_cons_succ, List.set_cons_zero]
      by_cases hc : s ∈ rows
      · obtain ⟨rows', q', y8, y9, y10, S', a1, a2⟩ := ih rows z5 z6 (.fz (eSn s)) z10 (.fz (.int x)) (.fz (.lst (rows.map eSn))) S1 h3 rfl (by omega) hs
        refine ⟨rows', q', y8, y9, y10, S', ?_, a2⟩
        rw [← a1, List.map_cons, for_cons, bindE_nm, ok_bind]
        simp only [List.set_cons_succ, List.set_cons_zero, bodyB_app]
        rw [s_cons, hst, ok_bind]
        have hv : (Sl.fz (eSn s)).val = some (eSn s) := rfl
        generalize eSn s = es at hm himm
        simp [-List.map_map, hq, hm, hc, mkSl, PV.isMut]
      · have hs' : ∀ t ∈ rows ++ [s], t.length ≤ 3 := fun t ht => (List.mem_append.1 ht).elim (hs t) fun h => by rw [List.mem_singleton.1 h]; exact h2
        obtain ⟨rows', q', y8, y9, y10, S', a1, a2⟩ := ih (rows ++ [s]) z5 z6 (.fz (eSn s)) z10 (.fz (.int x)) (.fz (.lst ((rows ++ [s]).map eSn))) S1 h3 rfl (by rw [List.length_append, List.length_singleton]; omega) hs'
        refine ⟨rows', q', y8, y9, y10, S', ?_, a2⟩
        rw [← a1, List.map_cons, for_cons, bindE_nm, ok_bind]
        simp only [List.set_cons_succ, List.set_cons_zero, bodyB_app]
        rw [s_cons, hst, ok_bind]
        have hf : fitsL (rows.map eSn ++ [eSn s]) = true := fits_len (by rw [List.length_append, List.length_map, List.length_singleton]; omega)
        rw [List.map_append, List.map_cons, List.map_nil]
        generalize eSn s = es at hm himm hf
        simp [-List.map_map, hq, hm, hc, hf]
  have key := for_st (t := .nm 6) (body := bodyB (callAt tab gl 1000 (k + 2)) gl 1000 L_law_book_1) (en := e)
    (I := fun (r : List T) (b : Bk) env S => Wst S ∧ keys b ++ r = wds ∧ (∀ x ∈ r, x ∈ wds) ∧ (∀ p ∈ b, p.2.length ≤ 2 ∧ ∀ s ∈ p.2, s.length ≤ 3) ∧ ∃ (z6 z7 z8 z9 z10 : Sl), env = [.fz (.cel 0), .fz (.int 6), .fz (.int 2), .fz (.tup (free5.map e)), .fz (.lst (wds.map e)), .ow (.dct (bD b)), z6, z7, z8, z9, z10])
    ?_ wds [] _ S0 ⟨hS0, rfl, fun _ h => h, by simp, .un, .un, .un, .un, .un, rfl⟩
  · obtain ⟨env1, S1, b, h1, hS1, h2, _, h4, z6, z7, z8, z9, z10, rfl⟩ := key
    rw [List.append_nil] at h2
    have hkl : (keys b).length = wds.length := by rw [h2]
    rw [List.length_map] at hkl
    refine ⟨b, S1, ?_, ⟨by rw [h2]; exact hwa, by omega, h4, fun w hw => ?_⟩, ⟨n.toNat, by rw [h2, hwd]⟩, hS1⟩
    · have hcut : cut [PV.str [97, 110, 116], .str [98, 101, 101], .str [99, 97, 116], .str [100, 111, 103], .str [101, 108, 107], .str [102, 111, 120]] none (some n) = wds.map e := by
        rw [← hwd]
        show ((W6.map e).take (bnd 6 6 (some n))).drop 0 = _
        have : bnd 6 6 (some n) = n.toNat := by
          unfold bnd
          simp only [hn2, if_true]
          omega
        rw [this, List.drop_zero, List.map_take]
      have hfin := hS1.fin (v := .dct (bD b)) (by
        have : ∀ b : Bk, cbD 1 (bD b) = true := fun b => by
          induction b with
          | nil => rfl
          | cons p b ih =>
            show cbD 1 ((e p.1, eSs p.2) :: bD b) = true
            rw [cbD, ih]
            simp [eSs]
        rw [cb_dct]; exact this b)
      have h1' : forL (.nm 6) (bodyB (callAt tab gl 1000 (k + 2)) gl 1000 L_law_book_1) (wds.map e) [.fz (.cel 0), .fz (.int 6), .fz (.int 2), .fz (.tup (free5.map e)), .fz (.lst (wds.map e)), .ow (.dct []), .un, .un, .un, .un, .un] S0 = _ := h1
      rw [call_lit (tab := tab) (f := 28) (np := 4) (n := 11) rfl]
      have e0 : dUpd [] [] = [] := rfl
      simp [-List.map_map, List.replicate, hn1, small_of hn2 (by omega : n ≤ 16777216), hcut, h1', e0]
      rw [hS.len, hfin]
    · rw [h2] at hw
      rw [← hwd] at hw
      exact W6_nm w (List.mem_of_mem_take hw)
  · rintro x r b env S ⟨hS, h2, h3, h4, z6, z7, z8, z9, z10, rfl⟩
    have hx : x ∉ keys b := fun hh => by
      have := hwa.nodup
      rw [← h2, List.nodup_append] at this
      exact this.2.2 x hh x List.mem_cons_self rfl
    have hkl : b.length ≤ 6 := by
      have := congrArg List.length h2
      rw [List.length_append, List.length_map] at this
      omega
    obtain ⟨i, S1, g1, g2, g3, g4⟩ := next_w (k := k + 1) hS (m := 2) (by omega)
    obtain ⟨rows, q', y8, y9, y10, S2, a1, a2, a3, a4, a5⟩ := hrows (List.range (i.toNat + 1)) [] (.ow (.dct (bD b))) (.fz (e x)) z9 z10 z8 (.ow (.lst [])) S1 g4 rfl (by simp; omega) (by simp)
    have hs : small62 (1 + i) = true := small_of (by omega) (by omega)
    have hi : (1 + i ≤ 16777216) := by omega
    have hf : fitsL (rows.map eSn) = true := fits_len (by rw [List.length_map]; omega)
    have hput := bD_put (ss := rows) hx
    have hlen : (bD b).length < line := by
      have : (bD b).length = b.length := by simp [bD]
      rw [this]; unfold line; omega
    rw [eSs] at hput
    refine ⟨.nx, [.fz (.cel 0), .fz (.int 6), .fz (.int 2), .fz (.tup (free5.map e)), .fz (.lst (wds.map e)), .ow (.dct (bD (b ++ [(x, rows)]))), .fz (e x), q', y8, y9, y10], S2, b ++ [(x, rows)], ?_, Or.inl rfl, a2, ?_, fun y hy => h3 y (List.mem_cons_of_mem _ hy), ?_, _, _, _, _, _, rfl⟩
    · simp [-List.map_map, g1, hs, hi, rng1 i g2, a1, a3, hf, hlen, hput, isKey_e d0]
    · rw [keys, List.map_append, ← h2]; simp
    · intro p hp
      rcases List.mem_append.1 hp with hp | hp
      · exact h4 p hp
      · rw [List.mem_singleton.1 hp]
        exact ⟨a4, a5⟩
end
end K45
end

section
/-! sizes: the law's plain maths -/
set_option autoImplicit false
set_option linter.unusedSimpArgs false
set_option linter.unusedVariables false
namespace K45
open Ev Res PV
open Enc (e)
theorem sum_perm {l m : List Int} (h : l.Perm m) : l.sum = m.sum := by
  induction h with
  | nil => rfl
  | cons x _ ih => rw [List.sum_cons, List.sum_cons, ih]
  | swap x y l => rw [List.sum_cons, List.sum_cons, List.sum_cons, List.sum_cons]; omega
  | trans _ _ a b => exact a.trans b
theorem sum_sub {f : T → Int} : ∀ {l m : List T}, l.Nodup → (∀ x ∈ l, x ∈ m) → (∀ x ∈ m, 0 ≤ f x) → (l.map f).sum ≤ (m.map f).sum
  | [], m, _, _, h0 => by
    rw [List.map_nil, List.sum_nil]
    induction m with
    | nil => simp
    | cons y m ih =>
      rw [List.map_cons, List.sum_cons]
      have a1 := h0 y List.mem_cons_self
      have a2 := ih (by simp) fun x hx => h0 x (List.mem_cons_of_mem _ hx)
      omega
  | x :: l, m, hn, hs, h0 => by
    have ⟨h1, h2⟩ := List.nodup_cons.1 hn
    have hx := hs x List.mem_cons_self
    have ih := sum_sub (f := f) (l := l) (m := m.erase x) h2 (fun y hy => (List.mem_erase_of_ne (fun z : y = x => h1 (z ▸ hy))).2 (hs y (List.mem_cons_of_mem _ hy))) fun y hy => h0 y (List.mem_of_mem_erase hy)
    have hp := List.perm_cons_erase hx
    have : (m.map f).sum = f x + ((m.erase x).map f).sum := by
      have := sum_perm (hp.map f)
      rw [this, List.map_cons, List.sum_cons]
    rw [this, List.map_cons, List.sum_cons]
    omega
theorem lin_app (w : Wr) (l m : List T) : lin w (l ++ m) = lin w l + lin w m := by unfold lin; rw [List.map_append, List.sum_append]
section
variable {b : Bk} {w : Wr}
theorem cl_closed {ws : List T} (hws : ∀ x ∈ ws, x ∈ keys b) : cl b (cl b ws) = cl b ws := by
  refine asc_eq clo_asc clo_asc fun x => ?_
  rw [mem_cl (fun y hy => cl_sub hy), mem_cl hws]
  refine ⟨fun h => h.closed (p := fun y => Rch (nx b) ws y) (fun y hy => (mem_cl hws).1 hy) fun y hy z hz => .step hy hz, fun h => .base ((mem_cl hws).2 h)⟩
theorem cl_able (hb : IsB b) {x : T} (hx : x ∈ keys b) : cl b [x] ∈ ables b :=
  List.mem_filter.2 ⟨allS_all clo_asc fun y hy => cl_sub hy, by simpa using cl_closed (by simpa using hx)⟩
/-- the choices within some lines that have a word -/
noncomputable def overs (b : Bk) (w : Wr) (m : Int) (x : T) : List Sn := (ables b).filter fun r => decide (lin w r ≤ m) && decide (x ∈ r)
theorem must_iff (hb : IsB b) (hw : IsW b w) {x : T} (hx : x ∈ keys b) (m : Int) : overs b w m x = [] ↔ m < lin w (cl b [x]) := by
  rw [overs]
  have hself : x ∈ cl b [x] := (mem_cl (by simpa using hx)).2 (.base List.mem_cons_self)
  rw [List.filter_eq_nil_iff]
  constructor
  · intro h
    have := h _ (cl_able hb hx)
    simp only [hself, decide_true, Bool.and_true, decide_eq_true_eq] at this
    omega
  · intro h r hr
    obtain ⟨a1, a2, a3, a4⟩ := ables_sub hb hr
    simp only [Bool.and_eq_true, decide_eq_true_eq]
    rintro ⟨h1, h2⟩
    have hsub : ∀ y ∈ cl b [x], y ∈ r := fun y hy => by
      rw [← a4]
      refine (mem_cl a2).2 (((mem_cl (by simpa using hx)).1 hy).closed (p := fun z => Rch (nx b) r z) (fun z hz => ?_) fun y hy z hz => .step hy hz)
      rw [List.mem_singleton.1 hz]
      exact .base h2
    have := sum_sub (f := fun x => (wv w x).1) clo_asc.nodup hsub fun y hy => by have := (hw.at (a2 y hy)).2.1; omega
    unfold lin at h h1
    unfold cl at h
    unfold cl at this
    omega
/-! the law's best -/
abbrev LB := Option (Int × Int × List T)
noncomputable def lbPick (wo li : Int) (mo : List T) : LB → LB
  | none => some (wo, li, mo)
  | some (w0, l0, m0) => if w0 * li < wo * l0 then some (wo, li, mo) else some (w0, l0, m0)
open Classical in
noncomputable def lbStep (b : Bk) (w : Wr) (m : Int) (now : List T) (best : LB) (x : T) : LB :=
  if x ∉ now ∧ lin w now + lin w (moreOf b now x) ≤ m then lbPick (wor w (moreOf b now x)) (lin w (moreOf b now x)) (moreOf b now x) best else best
def Rel : Best → LB → Prop
  | none, none => True
  | some (f, l), some (w0, l0, m0) => f = frac w0 l0 ∧ l = m0 ∧ 0 ≤ w0 ∧ 0 < l0
  | _, _ => False
theorem cmp_frac {w0 l0 w1 l1 : Int} (h0 : 0 ≤ w0) (h1 : 0 < l0) (h2 : 0 ≤ w1) (h3 : 0 < l1) : ((frac w0 l0).1 * (frac w1 l1).2 < (frac w1 l1).1 * (frac w0 l0).2) ↔ (w0 * l1 < w1 * l0) := by
  obtain ⟨a, rfl⟩ := Int.eq_ofNat_of_zero_le h0
  obtain ⟨c, rfl⟩ := Int.eq_ofNat_of_zero_le (Int.le_of_lt h1)
  obtain ⟨d, rfl⟩ := Int.eq_ofNat_of_zero_le h2
  obtain ⟨f, rfl⟩ := Int.eq_ofNat_of_zero_le (Int.le_of_lt h3)
  unfold frac
  simp only [Int.toNat_natCast]
  have hc : 0 < c := by omega
  have hf : 0 < f := by omega
  have g1 : 0 < Nat.gcd a c := Nat.gcd_pos_of_pos_right _ hc
  have g2 : 0 < Nat.gcd d f := Nat.gcd_pos_of_pos_right _ hf
  have e1 : a / Nat.gcd a c * Nat.gcd a c = a := Nat.div_mul_cancel (Nat.gcd_dvd_left a c)
  have e2 : c / Nat.gcd a c * Nat.gcd a c = c := Nat.div_mul_cancel (Nat.gcd_dvd_right a c)
  have e3 : d / Nat.gcd d f * Nat.gcd d f = d := Nat.div_mul_cancel (Nat.gcd_dvd_left d f)
  have e4 : f / Nat.gcd d f * Nat.gcd d f = f := Nat.div_mul_cancel (Nat.gcd_dvd_right d f)
  generalize Nat.gcd a c = g at *
  generalize Nat.gcd d f = k at *
  generalize a / g = p at *
  generalize c / g = q at *
  generalize d / k = r at *
  generalize f / k = s at *
  subst e1 e2 e3 e4
  have hgk : 0 < g * k := Nat.mul_pos g1 g2
  norm_cast
  rw [show p * g * (s * k) = p * s * (g * k) by ac_rfl, show r * k * (q * g) = r * q * (g * k) by ac_rfl]
  exact (Nat.mul_lt_mul_right hgk).symm
theorem rel_step (hw : IsW b w) {m : Int} {now : List T} {s : Best} {t : LB} (h : Rel s t) {x : T} (hx : x ∈ keys b) : Rel (nwStep b w m now s x) (lbStep b w m now t x) := by
  unfold nwStep lbStep
  rw [lin_app]
  by_cases hc : x ∉ now ∧ lin w now + lin w (moreOf b now x) ≤ m
  · rw [if_pos hc, if_pos hc]
    have hself := more_self hx hc.1
    have hpos : 0 < (moreOf b now x).length := List.length_pos_of_mem hself
    have lb := lin_bd hw (l := moreOf b now x) fun y hy => more_sub hy
    have wb := wor_bd hw (l := moreOf b now x) fun y hy => more_sub hy
    have hl0 : 0 < lin w (moreOf b now x) := by omega
    match s, t, h with
    | none, none, _ => exact ⟨rfl, rfl, wb.1, hl0⟩
    | some (f, l), some (w0, l0, m0), ⟨h1, h2, h3, h4⟩ =>
      subst h1 h2
      have := cmp_frac h3 h4 wb.1 hl0
      show Rel (if _ < _ then _ else _) (if _ < _ then _ else _)
      by_cases hc2 : w0 * lin w (moreOf b now x) < wor w (moreOf b now x) * l0
      · rw [if_pos (this.2 hc2), if_pos hc2]
        exact ⟨rfl, rfl, wb.1, hl0⟩
      · rw [if_neg fun h => hc2 (this.1 h), if_neg hc2]
        exact ⟨rfl, rfl, h3, h4⟩
  · rw [if_neg hc, if_neg hc]
    exact h
theorem rel_fold (hw : IsW b w) {m : Int} {now : List T} : ∀ (r : List T) (s : Best) (t : LB), Rel s t → (∀ x ∈ r, x ∈ keys b) → Rel (r.foldl (nwStep b w m now) s) (r.foldl (lbStep b w m now) t)
  | [], s, t, h, _ => h
  | x :: r, s, t, h, hr => rel_fold hw r _ _ (rel_step hw h (hr x List.mem_cons_self)) fun y hy => hr y (List.mem_cons_of_mem _ hy)
/-- what the law's now becomes -/
noncomputable def lbNow (now : List T) : LB → List T
  | none => now
  | some (_, _, l) => st (now ++ l)
theorem lbNow_eq (hw : IsW b w) {m : Int} {now : List T} (hn : Now b now) : lbNow now ((keys b).foldl (lbStep b w m now) none) = grF b w m now := by
  have h1 := rel_fold hw (m := m) (now := now) (keys b) none none trivial fun _ h => h
  have h2 : nxt b w m now = ((keys b).foldl (nwStep b w m now) none).map (·.2) := rfl
  unfold grF
  generalize (keys b).foldl (nwStep b w m now) none = s at h1 h2
  generalize (keys b).foldl (lbStep b w m now) none = t at h1
  match s, t, h1 with
  | none, none, _ =>
    rw [h2]; rfl
  | some (f, l), some (w0, l0, m0), ⟨_, h3, _, _⟩ =>
    subst h3
    obtain ⟨x, _, _, hl⟩ := nxt_some (b := b) (w := w) (m := m) (now := now) (l := l) (by rw [h2]; rfl)
    rw [h2]
    show st (now ++ l) = sd (now ++ l)
    refine st_sd (List.nodup_append.2 ⟨hn.asc.nodup, ?_, fun y hy z hz hyz => ?_⟩)
    · rw [hl]; exact clo_asc.nodup.filter _
    · rw [hl] at hz
      have := (List.mem_filter.1 hz).2
      rw [← hyz] at this
      simp [hy] at this
end
end K45
end

section
/-! sizes: the law's loops -/
set_option autoImplicit false
set_option linter.unusedSimpArgs false
set_option linter.unusedVariables false
set_option maxHeartbeats 4000000
namespace K45
open Ev Res PV
open Enc (e)
def C : CallF := callAt tab gl 1000 39
section
variable {S : Store} {b : Bk} {w : Wr}
theorem c_next (hS : Wst S) {m : Int} (hm : 0 < m) : ∃ i S', C 24 [.cel 0, .int m] S = .ok (.int i, S') ∧ 0 ≤ i ∧ i < m ∧ Wst S' := next_w (k := 38) hS hm
theorem c_book (hS : Wst S) : ∃ (b : Bk) (S' : Store), C 28 [.cel 0, .int 6, .int 2, .tup (free5.map e)] S = .ok (.dct (bD b), S') ∧ IsB b ∧ (∃ n, keys b = W6.take n) ∧ Wst S' := book_ok (k := 36) hS
theorem c_closed (hS : Sok S) (hb : IsB b) {ws : List T} (hn : ws.Nodup) (hws : ∀ w ∈ ws, w ∈ keys b) : C 11 [.dct (bD b), .tup (ws.map e)] S = .ok (.tup ((cl b ws).map e), S) := closed_ok (k := 36) hS (by omega) hb hn hws
theorem c_lclosed (hS : Sok S) (hb : IsB b) {ws : List T} (ha : Asc ws) (hws : ∀ w ∈ ws, w ∈ keys b) : C 31 [.dct (bD b), .tup (ws.map e)] S = .ok (.tup ((cl b ws).map e), S) := lclosed_ok (k := 37) hS hb ha hws
theorem c_lines (hS : Sok S) (hw : IsW b w) {l : List T} (hl : ∀ x ∈ l, x ∈ keys b) (hn : l.length ≤ 100) : C 13 [.dct (wD w), .tup (l.map e)] S = .ok (.int (lin w l), S) := lines_ok (k := 38) hS hw hl hn
theorem c_worth (hS : Sok S) (hw : IsW b w) {l : List T} (hl : ∀ x ∈ l, x ∈ keys b) (hn : l.length ≤ 100) : C 14 [.dct (wD w), .tup (l.map e)] S = .ok (.int (wor w l), S) := worth_ok (k := 38) hS hw hl hn
theorem c_best (hS : Sok S) (hb : IsB b) (hw : IsW b w) {m : Int} (hm : 0 ≤ m) : C 16 [.dct (bD b), .dct (wD w), .int m] S = .ok (.tup [.int (-(bestR b w m).a), .tup ((bestR b w m).c.l.map e)], S) := best_ok (k := 34) hS (by omega) hb hw hm
theorem c_byl (hS : Sok S) (hb : IsB b) (hw : IsW b w) {n : Nat} (hn : n ≤ 100) : C 17 [.dct (bD b), .dct (wD w), .int n] S = .ok (.tup (((List.range (n + 1)).map fun (j : Nat) => -(bestR b w j).a).map .int), S) := byl_ok (k := 33) hS (by omega) hb hw hn
theorem c_price (hS : Sok S) (hb : IsB b) (hw : IsW b w) {x : T} (hx : x ∈ keys b) : C 18 [.dct (bD b), .dct (wD w), e x] S = .ok (.int (lin w (cl b [x])), S) := price_ok (k := 35) hS (by omega) hb hw hx
theorem c_must (hS : Sok S) (hb : IsB b) (hw : IsW b w) {x : T} (hx : x ∈ keys b) (m : Int) : C 19 [.dct (bD b), .dct (wD w), .int m, e x] S = .ok (.bl (decide (m < lin w (cl b [x]))), S) := mustgo_ok (k := 34) hS (by omega) hb hw hx m
theorem c_lots (hS : Sok S) (hb : IsB b) : C 20 [.dct (bD b)] S = .ok (.tup ((sd (lotsC b)).map e), S) := lots_ok (k := 35) hS (by omega) hb
theorem c_grown (hS : Sok S) (hb : IsB b) (hw : IsW b w) (m : Int) : C 22 [.dct (bD b), .dct (wD w), .int m] S = .ok (.tup ((grown b w m).map e), S) := grown_ok (k := 34) hS (by omega) hb hw m
theorem c_isbit (hS : Sok S) (v : Bool) : C 26 [.bl v, .bl v] S = .ok (.bl true, S) := isbit_ok (tab := tab) (gl := gl) (W := 1000) (f := 26) rfl (k := 38) hS v
theorem c_isch (hS : Sok S) (hb : IsB b) {l : List T} (hl : ∀ x ∈ l, x.s.length ≤ 1000) (hn : l.length ≤ 100) : C 12 [.dct (bD b), .tup (l.map e)] S = .ok (.bl (choice b l), S) := ischoice_ok (k := 35) hS (by omega) hb hl hn
theorem dictB : builtin .dict [.dct (bD b)] = .ok (.dct (bD b)) := by
  rw [bi_dict_d, bD, encD_mix (α := T) rfl]; rfl
theorem dictW : builtin .dict [.dct (wD w)] = .ok (.dct (wD w)) := by
  rw [bi_dict_d, wD, encD_mix (α := T) rfl]; rfl
def R4 (w : Wr) (r : Sn) : PV := .tup [.int (-(wor w r)), .int r.length, eSn r, .int (lin w r)]
theorem cut3 (a b c d : PV) : cut [a, b, c, d] none (some 3) = [a, b, c] := rfl
/-- sums over words, in line -/
theorem sum1 {cf : CallF} {env : EnvV} {i j : Nat} (hw : IsW b w) {l : List T} (hl : ∀ x ∈ l, x ∈ keys b) (hij : i ≠ j) (hi : env[i]? = some (some (.dct (wD w)))) (hj : j < env.length) : eachL (part1 cf gl env (.nm j) [] (.idx (.idx (.slot i) (.slot j)) (.int 0))) (l.map e) S = .ok ((l.map fun x => (wv w x).1).map .int, S) := each_map fun x hx => by
  have g1 : ((env.set j none).set j (some (e x)))[i]? = some (some (.dct (wD w))) := by rw [List.getElem?_set_ne fun h => hij h.symm, List.getElem?_set_ne fun h => hij h.symm, hi]
  have g2 : ((env.set j none).set j (some (e x)))[j]? = some (some (e x)) := by rw [List.getElem?_set_self (by simpa using hj)]
  have h3 := (hw.at (hl x hx)).1
  simp only [part1, slots_nm, wipe_cons, wipe_nil, bindT_nm, ok_bind, xt_nil, if_true, x_idx, x_slot, x_int, g1, g2, opt_join, ofOpt_some, h3]
  rfl
theorem sum2 {cf : CallF} {env : EnvV} {i j : Nat} (hw : IsW b w) {l : List T} (hl : ∀ x ∈ l, x ∈ keys b) (hij : i ≠ j) (hi : env[i]? = some (some (.dct (wD w)))) (hj : j < env.length) : eachL (part1 cf gl env (.nm j) [] (.idx (.idx (.slot i) (.slot j)) (.int 1))) (l.map e) S = .ok ((l.map fun x => (wv w x).2).map .int, S) := each_map fun x hx => by
  have g1 : ((env.set j none).set j (some (e x)))[i]? = some (some (.dct (wD w))) := by rw [List.getElem?_set_ne fun h => hij h.symm, List.getElem?_set_ne fun h => hij h.symm, hi]
  have g2 : ((env.set j none).set j (some (e x)))[j]? = some (some (e x)) := by rw [List.getElem?_set_self (by simpa using hj)]
  have h3 := (hw.at (hl x hx)).1
  simp only [part1, slots_nm, wipe_cons, wipe_nil, bindT_nm, ok_bind, xt_nil, if_true, x_idx, x_slot, x_int, g1, g2, opt_join, ofOpt_some, h3]
  rfl
/-- the least of each number of lines -/
theorem law2 (hS : Sok S) (hb : IsB b) (hw : IsW b w) {z0 z1 z2 z3 z4 z5 z6 z7 z9 z10 z11 z12 z13 z14 z15 z17 z18 z19 z20 z21 z22 z23 z24 : Sl} {n : Nat} (hn : n ≤ 50) : ∃ y9 y24, forL (.nm 9) (bodyB C gl 1000 L_law_2) ((List.range n).map fun (k : Nat) => PV.int k) [z0, z1, z2, z3, z4, z5, z6, z7, .ow (.lst ((ables b).map (R4 w))), z9, z10, z11, z12, z13, z14, z15, .ow (.lst []), z17, z18, z19, z20, z21, z22, z23, z24] S =
    .ok (.nx, [z0, z1, z2, z3, z4, z5, z6, z7, .ow (.lst ((ables b).map (R4 w))), y9, z10, z11, z12, z13, z14, z15, .ow (.lst (((List.range n).map fun (j : Nat) => bestR b w j).map e)), z17, z18, z19, z20, z21, z22, z23, y24], S) := by
  have key := for_fold (S := S) (t := .nm 9) (body := bodyB C gl 1000 L_law_2) (en := fun (k : Nat) => PV.int k) (I := fun (r : List Nat) (_ : Unit) env => ∃ p, p ++ r = List.range n ∧ ∃ z9 z24, env = [z0, z1, z2, z3, z4, z5, z6, z7, .ow (.lst ((ables b).map (R4 w))), z9, z10, z11, z12, z13, z14, z15, .ow (.lst ((p.map fun (j : Nat) => bestR b w j).map e)), z17, z18, z19, z20, z21, z22, z23, z24])
    (fun _ _ => ()) ?_ (List.range n) () _ ⟨[], rfl, z9, z24, rfl⟩
  · obtain ⟨env1, h1, p, hp, y9, y24, rfl⟩ := key
    rw [List.append_nil] at hp
    subst hp
    exact ⟨y9, y24, h1⟩
  · rintro x r s env ⟨p, hp, z9, z24, rfl⟩
    have hpl : p.length + r.length + 1 = n := by
      have := congrArg List.length hp
      rw [List.length_append, List.length_cons, List.length_range] at this
      omega
    have hal := ables_len hb
    have e1 : eachL (part1 C gl [z0.val, z1.val, z2.val, z3.val, z4.val, z5.val, z6.val, z7.val, some (.lst ((ables b).map (R4 w))), some (.int x), z10.val, z11.val, z12.val, z13.val, z14.val, z15.val, some (.lst ((p.map fun (j : Nat) => bestR b w j).map e)), z17.val, z18.val, z19.val, z20.val, z21.val, z22.val, z23.val, z24.val] (.nm 24) [(.cmp .le (.idx (.slot 24) (.int 3)) (.slot 9))] (.slc (.slot 24) none (some (.int 3)))) ((ables b).map (R4 w)) S = .ok ((bRows b w x).map e, S) := by
      refine each_sel (p := fun r => decide (lin w r ≤ x)) (g := fun r => (⟨-(wor w r), (r.length : Int), ⟨r⟩⟩ : Tr Int Int (Tp T))) fun r _ => ?_
      by_cases hc : lin w r ≤ x
      · have : ¬ ((x : Int) < lin w r) := by omega
        simp [part1, R4, hc, this, cut3, e_tr, e_int, e_tp, eSn]
      · have : (x : Int) < lin w r := by omega
        simp [part1, R4, hc, this]
    have hne : bRows b w x ≠ [] := fun hh => by
      have := within_ne b w (m := (x : Int)) (by omega) hb
      rw [bRows, List.map_eq_nil_iff] at hh
      rw [hh] at this; cases this
    have hrl : (bRows b w x).length ≤ 400000 := by rw [bRows, List.length_map]; exact Nat.le_trans (List.length_filter_le ..) hal
    have hbest : bestR b w x = match bRows b w x with | [] => ⟨0, 0, ⟨[]⟩⟩ | x :: l => mnT x l := rfl
    refine ⟨.nx, [z0, z1, z2, z3, z4, z5, z6, z7, .ow (.lst ((ables b).map (R4 w))), .fz (.int x), z10, z11, z12, z13, z14, z15, .ow (.lst (((p ++ [x]).map fun (j : Nat) => bestR b w j).map e)), z17, z18, z19, z20, z21, z22, z23, z24], ?_, Or.inl rfl, p ++ [x], by rw [List.append_assoc]; exact hp, _, _, rfl⟩
    rw [List.map_append, List.map_cons, List.map_nil, hbest]
    generalize bRows b w x = rs at e1 hne hrl
    cases rs with
    | nil => exact absurd rfl hne
    | cons y l =>
      simp only [List.length_cons] at hrl
      have h5 := bi_min d3 y l
      have hf : fitsL (e y :: l.map e) = true := fits_len (by rw [List.length_cons, List.length_map]; omega)
      have hll : p.length < line := by unfold line; omega
      simp only [List.map_cons] at e1
      simp [-List.map_map, e1, hf, h5, hll]
end
end K45
end

section
/-! sizes: the law's loops, two -/
set_option autoImplicit false
set_option linter.unusedSimpArgs false
set_option linter.unusedVariables false
set_option maxHeartbeats 4000000
namespace K45
open Ev Res PV
open Enc (e)
section
variable {S : Store} {b : Bk} {w : Wr}
theorem eSn_mk (c : CE) (s : Sn) : mkSl c (eSn s) = .fz (eSn s) := by simp [eSn]
theorem lots_tp (p : List T) : (p.map fun x => (⟨cl b [x]⟩ : Tp T)).map (e : Tp T → PV) = p.map fun x => .tup ((cl b [x]).map e) := by rw [List.map_map]; rfl
/-- each word's lot -/
theorem law3 (hS : Sok S) (hb : IsB b) (hw : IsW b w) {m : Int} {z0 z1 z2 z5 z6 z7 z9 z11 z12 z13 z14 z16 z17 z18 z19 z20 z21 z22 z23 z24 : Sl} : ∃ (y11 y17 y18 y21 y24 : Sl), forL (.nm 11) (bodyB C gl 1000 L_law_3) ((keys b).map e) [z0, z1, z2, .fz (.dct (bD b)), .ow (.dct (wD w)), z5, z6, z7, .ow (.lst ((ables b).map (R4 w))), z9, .ow (.lst []), z11, z12, z13, z14, .fz (.int m), z16, z17, z18, z19, z20, z21, z22, z23, z24] S =
    .ok (.nx, [z0, z1, z2, .fz (.dct (bD b)), .ow (.dct (wD w)), z5, z6, z7, .ow (.lst ((ables b).map (R4 w))), z9, .ow (.lst ((lotsC b).map e)), y11, z12, z13, z14, .fz (.int m), z16, y17, y18, z19, z20, y21, z22, z23, y24], S) := by
  have key := for_fold (S := S) (t := .nm 11) (body := bodyB C gl 1000 L_law_3) (en := e) (I := fun (r : List T) (_ : Unit) env => ∃ p, p ++ r = keys b ∧ ∃ z11 z17 z18 z21 z24, env = [z0, z1, z2, .fz (.dct (bD b)), .ow (.dct (wD w)), z5, z6, z7, .ow (.lst ((ables b).map (R4 w))), z9, .ow (.lst ((p.map fun x => (⟨cl b [x]⟩ : Tp T)).map e)), z11, z12, z13, z14, .fz (.int m), z16, z17, z18, z19, z20, z21, z22, z23, z24])
    (fun _ _ => ()) ?_ (keys b) () _ ⟨[], rfl, z11, z17, z18, z21, z24, rfl⟩
  · obtain ⟨env1, h1, p, hp, y11, y17, y18, y21, y24, rfl⟩ := key
    rw [List.append_nil] at hp
    rw [hp] at h1
    exact ⟨y11, y17, y18, y21, y24, h1⟩
  · rintro x r s env ⟨p, hp, z11, z17, z18, z21, z24, rfl⟩
    have hx : x ∈ keys b := by rw [← hp]; simp
    have hpl : p.length ≤ 6 := by
      have := congrArg List.length hp
      have h2 := keys_len hb
      rw [List.length_append] at this
      omega
    have hal := ables_len hb
    have hcl := cl_len hb [x]
    have h1 := c_lclosed hS hb (ws := [x]) (List.pairwise_singleton _ _) (by simpa using hx)
    simp only [List.map_cons, List.map_nil] at h1
    have h2 := c_price hS hb hw hx
    have h3 := c_must hS hb hw hx m
    have h4 := c_isbit hS (decide (m < lin w (cl b [x])))
    have e1 : eachL (part1 C gl [z0.val, z1.val, z2.val, some (.dct (bD b)), some (.dct (wD w)), z5.val, z6.val, z7.val, some (.lst ((ables b).map (R4 w))), z9.val, some (.lst ((p.map fun x => PV.tup ((cl b [x]).map e)) ++ [.tup ((cl b [x]).map e)])), some (e x), z12.val, z13.val, z14.val, some (.int m), z16.val, some (.tup ((cl b [x]).map e)), z18.val, z19.val, z20.val, z21.val, z22.val, z23.val, z24.val] (.nm 21) [] (.idx (.idx (.slot 4) (.slot 21)) (.int 0))) ((cl b [x]).map e) S = .ok (((cl b [x]).map fun x => (wv w x).1).map .int, S) := sum1 hw (fun y hy => cl_sub hy) (by decide) rfl (by simp)
    have e2 : eachL (part1 C gl [z0.val, z1.val, z2.val, some (.dct (bD b)), some (.dct (wD w)), z5.val, z6.val, z7.val, some (.lst ((ables b).map (R4 w))), z9.val, some (.lst ((p.map fun x => PV.tup ((cl b [x]).map e)) ++ [.tup ((cl b [x]).map e)])), some (e x), z12.val, z13.val, z14.val, some (.int m), z16.val, some (.tup ((cl b [x]).map e)), some (.int (lin w (cl b [x]))), z19.val, z20.val, z21.val, z22.val, z23.val, z24.val] (.nm 24) [(.and [(.cmp .le (.idx (.slot 24) (.int 3)) (.slot 15)), (.cmp .mem (.slot 11) (.idx (.slot 24) (.int 2)))])] (.slot 24)) ((ables b).map (R4 w)) S = .ok ((overs b w m x).map (R4 w), S) := by
      refine each_flt (p := fun r => decide (lin w r ≤ m) && decide (x ∈ r)) fun r _ => ?_
      have hm := memTt x r
      by_cases hc : lin w r ≤ m
      · have hc2 : ¬ (m < lin w r) := by omega
        by_cases hd : x ∈ r <;> simp only [hd, decide_true, decide_false] at hm <;> simp [part1, R4, hc, hc2, hd, eSn, hm]
      · have hc2 : m < lin w r := by omega
        simp [part1, R4, hc, hc2]
    have hflt : (overs b w m x).length ≤ (ables b).length := List.length_filter_le ..
    have hmi := must_iff hb hw hx m
    have h5 : eqE (.lst ((overs b w m x).map (R4 w))) (.lst []) = .ok (decide (m < lin w (cl b [x]))) := by
      have hok : ∀ l : List Sn, (PV.lst (l.map (R4 w))).okD = true := fun l => by
        have h1 : ∀ l : List Sn, plainL (l.map (R4 w)) = true ∧ depthL (l.map (R4 w)) ≤ 3 := fun l => by
          induction l with
          | nil => exact ⟨rfl, by simp [depthL]⟩
          | cons r l ih =>
            have hd := depthL_e (α := T) r
            rw [dep_T] at hd
            refine ⟨by simp [plainL, ih.1, R4, plain, eSn], ?_⟩
            simp only [List.map_cons, depthL, R4, depth, eSn]
            have := ih.2
            omega
        rw [okD, plain, (h1 l).1, depth]
        have := (h1 l).2
        simp only [Bool.true_and, decide_eq_true_eq]
        omega
      rw [eq_okD (hok _) (by rfl)]
      refine congrArg Res.ok ?_
      cases hq : overs b w m x with
      | nil => rw [decide_eq_true (hmi.1 hq)]; rfl
      | cons r l => rw [decide_eq_false fun h => by rw [hmi.2 h] at hq; cases hq]; rfl
    have hf1 : fitsL ((overs b w m x).map (R4 w)) = true := fits_len (by rw [List.length_map]; omega)
    have hf2 : fitsL (((cl b [x]).map fun x => (wv w x).1).map PV.int) = true := fits_len (by rw [List.length_map, List.length_map]; omega)
    have hsum := bi_sum ((cl b [x]).map fun x => (wv w x).1)
    rw [show ((cl b [x]).map fun x => (wv w x).1).sum = lin w (cl b [x]) from rfl] at hsum
    have hll : p.length < line := by unfold line; omega
    have hne : eqE (.int (lin w (cl b [x]))) (.int (lin w (cl b [x]))) = .ok true := by simp
    refine ⟨.nx, [z0, z1, z2, .fz (.dct (bD b)), .ow (.dct (wD w)), z5, z6, z7, .ow (.lst ((ables b).map (R4 w))), z9, .ow (.lst (((p ++ [x]).map fun x => (⟨cl b [x]⟩ : Tp T)).map e)), .fz (e x), z12, z13, z14, .fz (.int m), z16, .fz (.tup ((cl b [x]).map e)), .fz (.int (lin w (cl b [x]))), z19, z20, z21, z22, z23, z24], ?_, Or.inl rfl, p ++ [x], by rw [List.append_assoc]; exact hp, _, _, _, _, _, rfl⟩
    rw [lots_tp, lots_tp, List.map_append, List.map_cons, List.map_nil]
    simp [-List.map_map, h1, hll, e1, hf2, hsum, dictB, dictW, h2, h3, e2, hf1, h5, h4, -bi_dict_d]
/-- the law's best, as a value -/
noncomputable def lbV : LB → PV
  | none => .non
  | some (wo, li, mo) => .tup [.int wo, .int li, .lst (mo.map e)]
def LbOk (s : LB) : Prop := match s with
  | none => True
  | some (wo, li, mo) => 0 ≤ wo ∧ wo ≤ 1000 ∧ mo.length ≤ 6
theorem law5 (hS : Sok S) (hb : IsB b) (hw : IsW b w) {m : Int} {now : List T} (hn : Now b now) {z0 z1 z2 z5 z6 z7 z8 z9 z10 z11 z13 z14 z16 z17 z18 z20 z21 z22 z23 z24 : Sl} : ∃ (y9 y11 y21 y22 y23 q : Sl), forL (.nm 11) (bodyB C gl 1000 L_law_5) ((keys b).map e) [z0, z1, z2, .fz (.dct (bD b)), .ow (.dct (wD w)), z5, z6, z7, z8, z9, z10, z11, .fz (.tup (now.map e)), z13, z14, .fz (.int m), z16, z17, z18, .fz .non, z20, z21, z22, z23, z24] S =
    .ok (.nx, [z0, z1, z2, .fz (.dct (bD b)), .ow (.dct (wD w)), z5, z6, z7, z8, y9, z10, y11, .fz (.tup (now.map e)), z13, z14, .fz (.int m), z16, z17, z18, q, z20, y21, y22, y23, z24], S) ∧ q.val = some (lbV ((keys b).foldl (lbStep b w m now) none)) ∧ LbOk ((keys b).foldl (lbStep b w m now) none) := by
  have hnl := now_len hb hn
  have hbl := hb.len
  have key := for_fold (S := S) (t := .nm 11) (body := bodyB C gl 1000 L_law_5) (en := e) (I := fun (r : List T) (s : LB) env => (∀ x ∈ r, x ∈ keys b) ∧ LbOk s ∧ ∃ z9 z11 z21 z22 z23, env = [z0, z1, z2, .fz (.dct (bD b)), .ow (.dct (wD w)), z5, z6, z7, z8, z9, z10, z11, .fz (.tup (now.map e)), z13, z14, .fz (.int m), z16, z17, z18, .fz (lbV s), z20, z21, z22, z23, z24])
    (lbStep b w m now) ?_ (keys b) none _ ⟨fun _ h => h, trivial, z9, z11, z21, z22, z23, rfl⟩
  · obtain ⟨env1, h1, _, h2, y9, y11, y21, y22, y23, rfl⟩ := key
    exact ⟨y9, y11, y21, y22, y23, _, h1, rfl, h2⟩
  · rintro x r s env ⟨hr, hso, z9, z11, z21, z22, z23, rfl⟩
    have hx := hr x List.mem_cons_self
    have hr2 : ∀ y ∈ r, y ∈ keys b := fun y hy => hr y (List.mem_cons_of_mem _ hy)
    have h1 := c_lclosed hS hb (ws := [x]) (List.pairwise_singleton _ _) (by simpa using hx)
    simp only [List.map_cons, List.map_nil] at h1
    have hml := more_len hb now x
    have e1 (q : PV) : eachL (part1 C gl [z0.val, z1.val, z2.val, some (.dct (bD b)), some (.dct (wD w)), z5.val, z6.val, z7.val, z8.val, z9.val, z10.val, some (e x), some (.tup (now.map e)), z13.val, z14.val, some (.int m), z16.val, z17.val, z18.val, some q, z20.val, z21.val, z22.val, z23.val, z24.val] (.nm 21) [(.cmp .nmem (.slot 21) (.slot 12))] (.slot 21)) ((cl b [x]).map e) S = .ok ((moreOf b now x).map e, S) := each_flt fun y _ => by
      simp [part1, memTt]
      split <;> simp_all
    have hms : ∀ y ∈ moreOf b now x, y ∈ keys b := fun y hy => more_sub hy
    have e2 (q : PV) : eachL (part1 C gl [z0.val, z1.val, z2.val, some (.dct (bD b)), some (.dct (wD w)), z5.val, z6.val, z7.val, z8.val, z9.val, z10.val, some (e x), some (.tup (now.map e)), z13.val, z14.val, some (.int m), z16.val, z17.val, z18.val, some q, z20.val, z21.val, some (.lst ((moreOf b now x).map e)), z23.val, z24.val] (.nm 21) [] (.idx (.idx (.slot 4) (.slot 21)) (.int 0))) ((moreOf b now x).map e) S = .ok (((moreOf b now x).map fun x => (wv w x).1).map .int, S) := sum1 hw hms (by decide) rfl (by simp)
    have e3 (q : PV) : eachL (part1 C gl (wipeV [z0.val, z1.val, z2.val, some (.dct (bD b)), some (.dct (wD w)), z5.val, z6.val, z7.val, z8.val, some (.int (lin w (moreOf b now x))), z10.val, some (e x), some (.tup (now.map e)), z13.val, z14.val, some (.int m), z16.val, z17.val, z18.val, some q, z20.val, z21.val, some (.lst ((moreOf b now x).map e)), z23.val, z24.val] [9]) (.nm 21) [] (.idx (.idx (.slot 4) (.slot 21)) (.int 1))) ((moreOf b now x).map e) S = .ok (((moreOf b now x).map fun x => (wv w x).2).map .int, S) := sum2 hw hms (by decide) rfl (by simp)
    have e4 (q : PV) : eachL (part1 C gl [z0.val, z1.val, z2.val, some (.dct (bD b)), some (.dct (wD w)), z5.val, z6.val, z7.val, z8.val, some (.int (lin w (moreOf b now x))), z10.val, some (e x), some (.tup (now.map e)), z13.val, z14.val, some (.int m), z16.val, z17.val, z18.val, some q, z20.val, z21.val, some (.lst ((moreOf b now x).map e)), some (.int (wor w (moreOf b now x))), z24.val] (.nm 21) [] (.idx (.idx (.slot 4) (.slot 21)) (.int 0))) (now.map e) S = .ok ((now.map fun x => (wv w x).1).map .int, S) := sum1 hw hn.sub (by decide) rfl (by simp)
    simp only [wipe_cons, wipe_nil, List.set_cons_succ, List.set_cons_zero] at e3
    have hs1 := bi_sum ((moreOf b now x).map fun x => (wv w x).1)
    have hs2 := bi_sum ((moreOf b now x).map fun x => (wv w x).2)
    have hs3 := bi_sum (now.map fun x => (wv w x).1)
    rw [show ((moreOf b now x).map fun x => (wv w x).1).sum = lin w (moreOf b now x) from rfl] at hs1
    rw [show ((moreOf b now x).map fun x => (wv w x).2).sum = wor w (moreOf b now x) from rfl] at hs2
    rw [show (now.map fun x => (wv w x).1).sum = lin w now from rfl] at hs3
    have hf1 : fitsL ((moreOf b now x).map (e : T → PV)) = true := fits_len (by rw [List.length_map]; omega)
    have hf2 : fitsL (((moreOf b now x).map fun x => (wv w x).1).map PV.int) = true := fits_len (by rw [List.length_map, List.length_map]; omega)
    have hf3 : fitsL (((moreOf b now x).map fun x => (wv w x).2).map PV.int) = true := fits_len (by rw [List.length_map, List.length_map]; omega)
    have hf4 : fitsL ((now.map fun x => (wv w x).1).map PV.int) = true := fits_len (by rw [List.length_map, List.length_map]; omega)
    have h5 := memTt x now
    have lb := lin_bd hw hms
    have wb := wor_bd hw hms
    by_cases hc1 : x ∈ now
    · have hst : lbStep b w m now s x = s := if_neg fun h => h.1 hc1
      rw [hst]
      refine ⟨.nx, [z0, z1, z2, .fz (.dct (bD b)), .ow (.dct (wD w)), z5, z6, z7, z8, .fz (.int (lin w (moreOf b now x))), z10, .fz (e x), .fz (.tup (now.map e)), z13, z14, .fz (.int m), z16, z17, z18, .fz (lbV s), z20, z21.freeze, .ow (.lst ((moreOf b now x).map e)), .fz (.int (wor w (moreOf b now x))), z24], ?_, Or.inl rfl, hr2, hso, _, _, _, _, _, rfl⟩
      generalize lbV s = q
      simp [-List.map_map, h1, e1, hf1, e2, hf2, hs1, e3, hf3, hs2, h5, hc1]
    · by_cases hc2 : lin w now + lin w (moreOf b now x) ≤ m
      · have hc3 : ¬ (m < lin w now + lin w (moreOf b now x)) := by omega
        have hst : lbStep b w m now s x = lbPick (wor w (moreOf b now x)) (lin w (moreOf b now x)) (moreOf b now x) s := if_pos ⟨hc1, hc2⟩
        rw [hst]
        have hb1 : big64 (wor w (moreOf b now x)) = true := big_of wb.1 (by omega)
        refine ⟨.nx, [z0, z1, z2, .fz (.dct (bD b)), .ow (.dct (wD w)), z5, z6, z7, z8, .fz (.int (lin w (moreOf b now x))), z10, .fz (e x), .fz (.tup (now.map e)), z13, z14, .fz (.int m), z16, z17, z18, .fz (lbV (lbPick (wor w (moreOf b now x)) (lin w (moreOf b now x)) (moreOf b now x) s)), z20, z21.freeze, .fz (.lst ((moreOf b now x).map e)), .fz (.int (wor w (moreOf b now x))), z24], ?_, Or.inl rfl, hr2, ?_, _, _, _, _, _, rfl⟩
        · cases s with
          | none =>
            have e1' := e1 .non
            have e2' := e2 .non
            have e3' := e3 .non
            have e4' := e4 .non
            simp [-List.map_map, h1, e1', hf1, e2', hf2, hs1, e3', hf3, hs2, h5, hc1, e4', hf4, hs3, hc3, lbV, lbPick]
          | some s =>
            obtain ⟨w0, l0, m0⟩ := s
            have e1' := e1 (.tup [.int w0, .int l0, .lst (m0.map e)])
            have e2' := e2 (.tup [.int w0, .int l0, .lst (m0.map e)])
            have e3' := e3 (.tup [.int w0, .int l0, .lst (m0.map e)])
            have e4' := e4 (.tup [.int w0, .int l0, .lst (m0.map e)])
            have hb2 : big64 w0 = true := big_of hso.1 (by have := hso.2.1; omega)
            by_cases hlt : w0 * lin w (moreOf b now x) < wor w (moreOf b now x) * l0
            · simp [-List.map_map, h1, e1', hf1, e2', hf2, hs1, e3', hf3, hs2, h5, hc1, e4', hf4, hs3, hc3, lbV, lbPick, hb1, hb2, hlt]
            · simp [-List.map_map, h1, e1', hf1, e2', hf2, hs1, e3', hf3, hs2, h5, hc1, e4', hf4, hs3, hc3, lbV, lbPick, hb1, hb2, hlt]
        · cases s with
          | none => exact ⟨wb.1, by omega, hml⟩
          | some s =>
            obtain ⟨w0, l0, m0⟩ := s
            show LbOk (if _ < _ then _ else _)
            split
            · exact ⟨wb.1, by omega, hml⟩
            · exact hso
      · have hc3 : m < lin w now + lin w (moreOf b now x) := by omega
        have hst : lbStep b w m now s x = s := if_neg fun h => hc2 h.2
        rw [hst]
        refine ⟨.nx, [z0, z1, z2, .fz (.dct (bD b)), .ow (.dct (wD w)), z5, z6, z7, z8, .fz (.int (lin w (moreOf b now x))), z10, .fz (e x), .fz (.tup (now.map e)), z13, z14, .fz (.int m), z16, z17, z18, .fz (lbV s), z20, z21.freeze, .ow (.lst ((moreOf b now x).map e)), .fz (.int (wor w (moreOf b now x))), z24], ?_, Or.inl rfl, hr2, hso, _, _, _, _, _, rfl⟩
        generalize lbV s = q
        simp [-List.map_map, h1, e1, hf1, e2, hf2, hs1, e3, hf3, hs2, h5, hc1, e4, hf4, hs3, hc3]
theorem law4 (hS : Sok S) (hb : IsB b) (hw : IsW b w) {m : Int} {z0 z1 z2 z5 z6 z7 z8 z9 z10 z11 z13 z14 z16 z17 z18 z19 z20 z21 z22 z23 z24 : Sl} : ∃ (y9 y11 y13 y19 y21 y22 y23 : Sl), forL (.nm 13) (bodyB C gl 1000 L_law_4) ((List.range b.length).map fun (k : Nat) => PV.int k) [z0, z1, z2, .fz (.dct (bD b)), .ow (.dct (wD w)), z5, z6, z7, z8, z9, z10, z11, .fz (.tup []), z13, z14, .fz (.int m), z16, z17, z18, z19, z20, z21, z22, z23, z24] S =
    .ok (.nx, [z0, z1, z2, .fz (.dct (bD b)), .ow (.dct (wD w)), z5, z6, z7, z8, y9, z10, y11, .fz (.tup ((grown b w m).map e)), y13, z14, .fz (.int m), z16, z17, z18, y19, z20, y21, y22, y23, z24], S) := by
  have key := for_fold (S := S) (t := .nm 13) (body := bodyB C gl 1000 L_law_4) (en := fun (k : Nat) => PV.int k) (I := fun (r : List Nat) (s : List T) env => Now b s ∧ ∃ z9 z11 z13 z19 z21 z22 z23, env = [z0, z1, z2, .fz (.dct (bD b)), .ow (.dct (wD w)), z5, z6, z7, z8, z9, z10, z11, .fz (.tup (s.map e)), z13, z14, .fz (.int m), z16, z17, z18, z19, z20, z21, z22, z23, z24])
    (fun s _ => grF b w m s) ?_ (List.range b.length) [] _ ⟨now_nil b, z9, z11, z13, z19, z21, z22, z23, rfl⟩
  · obtain ⟨env1, h1, _, y9, y11, y13, y19, y21, y22, y23, rfl⟩ := key
    rw [fold_repeat, List.length_range, ← grown] at h1
    exact ⟨y9, y11, y13, y19, y21, y22, y23, h1⟩
  · rintro x r s env ⟨hn, z9, z11, z13, z19, z21, z22, z23, rfl⟩
    have hnl := now_len hb hn
    have hbl := hb.len
    obtain ⟨y9, y11, y21, y22, y23, q, h1, hq, hso⟩ := law5 hS hb hw (m := m) hn (z0 := z0) (z1 := z1) (z2 := z2) (z5 := z5) (z6 := z6) (z7 := z7) (z8 := z8) (z9 := z9) (z10 := z10) (z11 := z11) (z13 := .fz (.int x)) (z14 := z14) (z16 := z16) (z17 := z17) (z18 := z18) (z20 := z20) (z21 := z21) (z22 := z22) (z23 := z23) (z24 := z24)
    have h2 := sort_keys hb
    have h3 := lbNow_eq hw (m := m) hn
    generalize (keys b).foldl (lbStep b w m s) none = t at hq hso h3
    refine ⟨.nx, [z0, z1, z2, .fz (.dct (bD b)), .ow (.dct (wD w)), z5, z6, z7, z8, y9, z10, y11, .fz (.tup ((grF b w m s).map e)), .fz (.int x), z14, .fz (.int m), z16, z17, z18, q, z20, y21, y22, y23, z24], ?_, Or.inl rfl, grF_now hn, _, _, _, _, _, _, _, rfl⟩
    rw [← h3]
    cases t with
    | none =>
      simp only [lbV] at hq
      simp [-List.map_map, h2, h1, hq, lbNow]

    | some t =>
      obtain ⟨w0, l0, mo⟩ := t
      have hmo : mo.length ≤ 6 := hso.2.2
      simp only [lbV] at hq
      have hf1 : fitsL (mo.map (e : T → PV)) = true := fits_len (by rw [List.length_map]; omega)
      have hf2 : fitsL (s.map (e : T → PV) ++ mo.map e) = true := fits_len (by rw [List.length_append, List.length_map, List.length_map]; omega)
      have h4 := sorted_e d60 (s ++ mo) (by rw [List.length_append]; omega)
      rw [List.map_append] at h4
      have h5 : (st (s ++ mo)).length ≤ 12 := by rw [st_len, List.length_append]; omega
      have hf3 : fitsL ((st (s ++ mo)).map (e : T → PV)) = true := fits_len (by rw [List.length_map]; omega)
      simp [-List.map_map, h2, h1, hq, lbNow, hf1, hf2, h4, hf3]

end
end K45
end

section
/-! sizes: the law's loops, three: things that may be choices -/
set_option autoImplicit false
set_option linter.unusedSimpArgs false
set_option linter.unusedVariables false
set_option maxHeartbeats 4000000
namespace K45
open Ev Res PV
open Enc (e)
def en3 : Option T → PV
  | some x => e x
  | none => .int 3
def badO (b : Bk) : Option T → Bool
  | some x => !nmS x.s || !decide (x ∈ keys b)
  | none => true
inductive Th (b : Bk) : PV → Prop
  | tup (l : List T) : l.length ≤ 20 → (∀ x ∈ l, x.s.length ≤ 10) → Th b (.tup (l.map e))
  | lst (l : List T) : Th b (.lst (l.map e))
  | non : Th b PV.non
  | tup3 (l : List T) : l.length ≤ 20 → (∀ x ∈ l, x.s.length ≤ 10) → Th b (.tup (l.map e ++ [PV.int 3]))
section
variable {S : Store} {b : Bk} {w : Wr}
theorem isch_other (hS : Sok S) {v : PV} (h1 : isTy .tuple v = false) (h2 : isCel v = false) (h3 : isScr v = false) : C 12 [.dct (bD b), v] S = .ok (.bl false, S) := by
  have g1 := isrow_other (tab := tab) (gl := gl) (W := 1000) (f := 8) (fn := 0) (k := 36) rfl hS h1 h2 h3
  have g2 : callAt tab gl 1000 38 9 [v] S = .ok (.bl false, S) := by
    rw [call_lit (tab := tab) (f := 9) (np := 1) (n := 1) rfl]
    simp [List.replicate, g1, hS.fin]
  rw [C, call_lit (tab := tab) (f := 12) (np := 2) (n := 3) rfl]
  simp [List.replicate, g2, hS.fin]
theorem isch_3 (hS : Sok S) {l : List T} (hl : l.length ≤ 20) (hx : ∀ x ∈ l, x.s.length ≤ 10) : C 12 [.dct (bD b), .tup (l.map e ++ [PV.int 3])] S = .ok (.bl false, S) := by
  have g1 := isrow_tup (tab := tab) (gl := gl) (W := 1000) (f := 8) (fn := 0) (k := 36) rfl hS (l := l.map e ++ [PV.int 3]) (by rw [List.length_append, List.length_map, List.length_singleton]; omega) nmV fun v hv => by
    rcases List.mem_append.1 hv with hv | hv
    · obtain ⟨x, hm, rfl⟩ := List.mem_map.1 hv
      exact isname_str (tab := tab) (gl := gl) rfl glz hS x.s (by have := hx x hm; omega)
    · rw [List.mem_singleton.1 hv]
      exact isname_other (tab := tab) (gl := gl) rfl hS rfl rfl rfl
  have e1 : (l.map e ++ [PV.int 3]).all nmV = false := by rw [List.all_append]; simp [nmV]
  rw [e1] at g1
  have g2 : callAt tab gl 1000 38 9 [.tup (l.map e ++ [PV.int 3])] S = .ok (.bl false, S) := by
    rw [call_lit (tab := tab) (f := 9) (np := 1) (n := 1) rfl]
    simp [List.replicate, g1, hS.fin]
  rw [C, call_lit (tab := tab) (f := 12) (np := 2) (n := 3) rfl]
  simp [List.replicate, g2, hS.fin]
theorem lname (hS : Sok S) (x : T) (hx : x.s.length ≤ 10) : C 27 [e x] S = .ok (.bl (nmS x.s), S) := lisname_str (tab := tab) (gl := gl) (f := 27) rfl hS x.s (by omega)
theorem lname3 (hS : Sok S) : C 27 [PV.int 3] S = .ok (.bl false, S) := lisname_other (tab := tab) (gl := gl) (f := 27) rfl hS rfl rfl rfl
/-- words that are no names, or not of the book -/
def bads (b : Bk) (l : List T) : List T := l.filter fun x => !nmS x.s || !decide (x ∈ keys b)
theorem choice_bad {l : List T} (h : bads b l ≠ []) : choice b l = false := by
  unfold choice
  rw [decide_eq_false]
  rintro ⟨h1, _, h3, _⟩
  refine h (List.filter_eq_nil_iff.2 fun x hx => ?_)
  have := h3 x hx
  simp [h1 x hx, this]
theorem choice_good {l : List T} (h : bads b l = []) : choice b l = (decide (Asc l) && @decide (cl b l = l) (Classical.propDecidable _)) := by
  have h2 := List.filter_eq_nil_iff.1 h
  have h3 : (∀ x ∈ l, nmS x.s = true) ∧ ∀ x ∈ l, x ∈ keys b := by
    refine ⟨fun x hx => ?_, fun x hx => ?_⟩ <;> have := h2 x hx <;> simp at this
    · exact this.1
    · simpa using this.2
  unfold choice
  refine Bool.eq_iff_iff.2 ?_
  simp only [decide_eq_true_eq, Bool.and_eq_true]
  exact ⟨fun h => ⟨h.2.1, h.2.2.2⟩, fun h => ⟨h3.1, h.1, h3.2, h.2⟩⟩
theorem sd_asc_iff (l : List T) : (l = sd l) ↔ Asc l := ⟨fun h => h ▸ sd_asc l, fun h => (sd_id h).symm⟩
theorem thing_ok (hS : Sok S) (hb : IsB b) {v : PV} (hv : Th b v) {z0 z1 z2 z4 z5 z6 z7 z8 z9 z10 z11 z12 z13 z15 z16 z17 z18 z19 z20 z21 z22 z23 z24 : Sl} : ∃ (y11 y20 : Sl), evB C gl 1000 [z0, z1, z2, .fz (.dct (bD b)), z4, z5, z6, z7, z8, z9, z10, z11, z12, z13, .fz v, z15, z16, z17, z18, z19, z20, z21, z22, z23, z24] L_law_6 S =
    .ok (.nx, [z0, z1, z2, .fz (.dct (bD b)), z4, z5, z6, z7, z8, z9, z10, y11, z12, z13, .fz v, z15, z16, z17, z18, z19, y20, z21, z22, z23, z24], S) := by
  have h4f := c_isbit hS false
  cases hv with
  | non =>
    have h1 := isch_other (b := b) hS (v := .non) rfl rfl rfl
    have t1 : isTy .tuple .non = false := rfl
    have t2 : isCel .non = false := rfl
    have t3 : isScr .non = false := rfl
    exact ⟨z11, .fz (.bl false), by simp [-List.map_map, t1, t2, t3, dictB, -bi_dict_d, h1, h4f]⟩
  | lst l =>
    have h1 := isch_other (b := b) hS (v := .lst (l.map e)) rfl rfl rfl
    have t1 : isTy .tuple (.lst (l.map e)) = false := rfl
    have t2 : isCel (.lst (l.map e)) = false := rfl
    have t3 : isScr (.lst (l.map e)) = false := rfl
    exact ⟨z11, .fz (.bl false), by simp [-List.map_map, t1, t2, t3, dictB, -bi_dict_d, h1, h4f]⟩
  | tup3 l hl hx =>
    have h1 := isch_3 (b := b) hS hl hx
    have t1 : isTy .tuple (.tup (l.map e ++ [PV.int 3])) = true := rfl
    have t2 : isCel (.tup (l.map e ++ [PV.int 3])) = false := rfl
    have t3 : isScr (.tup (l.map e ++ [PV.int 3])) = false := rfl
    have e0 : l.map e ++ [PV.int 3] = (l.map some ++ [none]).map en3 := by rw [List.map_append, List.map_map]; rfl
    have e1 : eachL (part1 C gl [z0.val, z1.val, z2.val, some (.dct (bD b)), z4.val, z5.val, z6.val, z7.val, z8.val, z9.val, z10.val, z11.val, z12.val, z13.val, some (.tup (l.map e ++ [PV.int 3])), z15.val, z16.val, z17.val, z18.val, z19.val, z20.val, z21.val, z22.val, z23.val, z24.val] (.nm 11) [(.or [(.not (.call 27 [(.slot 11)])), (.cmp .nmem (.slot 11) (.slot 3))])] (.slot 11)) (l.map e ++ [PV.int 3]) S = .ok (((l.map some ++ [none]).filter (badO b)).map en3, S) := by
      have : eachL (part1 C gl [z0.val, z1.val, z2.val, some (.dct (bD b)), z4.val, z5.val, z6.val, z7.val, z8.val, z9.val, z10.val, z11.val, z12.val, z13.val, some (.tup (l.map e ++ [PV.int 3])), z15.val, z16.val, z17.val, z18.val, z19.val, z20.val, z21.val, z22.val, z23.val, z24.val] (.nm 11) [(.or [(.not (.call 27 [(.slot 11)])), (.cmp .nmem (.slot 11) (.slot 3))])] (.slot 11)) ((l.map some ++ [none]).map en3) S = .ok (((l.map some ++ [none]).filter (badO b)).map en3, S) := each_flt fun o ho => by
        cases o with
        | none => simp [part1, en3, lname3 hS, badO]
        | some x =>
          have hxl : x ∈ l := by simpa using ho
          have a1 := lname hS x (hx x hxl)
          have a2 := memB x b
          cases hn : nmS x.s with
          | false => rw [hn] at a1; simp [part1, en3, a1, badO, hn]
          | true =>
            rw [hn] at a1
            by_cases c1 : x ∈ keys b <;> simp only [c1, decide_true, decide_false] at a2 ⊢ <;> simp [part1, en3, a1, a2, badO, hn, c1, -List.mem_map]
      rw [← e0] at this
      exact this
    rw [List.filter_append] at e1
    have e2 : ([none] : List (Option T)).filter (badO b) = [none] := rfl
    rw [e2] at e1
    have hq := List.length_filter_le (badO b) (l.map some)
    rw [List.length_map] at hq
    generalize (l.map some).filter (badO b) = q at e1 hq
    have e3 : eqE (.lst ((q ++ [none]).map en3)) (.lst []) = .ok false := by
      have hok : (PV.lst ((q ++ [none]).map en3)).okD = true := by
        have h1 : ∀ l : List (Option T), plainL (l.map en3) = true ∧ depthL (l.map en3) = 0 := fun l => by
          induction l with
          | nil => exact ⟨rfl, by simp [depthL]⟩
          | cons o l ih => cases o <;> exact ⟨by simp [plainL, ih.1, en3, plain], by simp [depthL, ih.2, en3, depth, e_T]⟩
        rw [okD, plain, (h1 _).1, depth, (h1 _).2]; rfl
      rw [eq_okD hok rfl]
      cases q <;> rfl
    have hf : fitsL ((q ++ [none]).map en3) = true := fits_len (by rw [List.length_map, List.length_append, List.length_singleton]; omega)
    generalize (q ++ [none]).map en3 = out at e1 e3 hf
    refine ⟨z11, .fz (.bl false), ?_⟩
    simp [-List.map_map, -List.map_append, t1, t2, t3, e1, hf, e3, dictB, -bi_dict_d, h1, h4f]
  | tup l hl hx =>
    have h1 := c_isch hS hb (l := l) (fun x hxx => by have := hx x hxx; omega) (by omega)
    have h4 := c_isbit hS (choice b l)
    have t1 : isTy .tuple (.tup (l.map e)) = true := rfl
    have t2 : isCel (.tup (l.map e)) = false := rfl
    have t3 : isScr (.tup (l.map e)) = false := rfl
    have e1 : eachL (part1 C gl [z0.val, z1.val, z2.val, some (.dct (bD b)), z4.val, z5.val, z6.val, z7.val, z8.val, z9.val, z10.val, z11.val, z12.val, z13.val, some (.tup (l.map e)), z15.val, z16.val, z17.val, z18.val, z19.val, z20.val, z21.val, z22.val, z23.val, z24.val] (.nm 11) [(.or [(.not (.call 27 [(.slot 11)])), (.cmp .nmem (.slot 11) (.slot 3))])] (.slot 11)) (l.map e) S = .ok ((bads b l).map e, S) := each_flt fun x hxl => by
      have a1 := lname hS x (hx x hxl)
      have a2 := memB x b
      cases hn : nmS x.s with
      | false => rw [hn] at a1; simp [part1, a1]
      | true =>
        rw [hn] at a1
        by_cases c1 : x ∈ keys b <;> simp only [c1, decide_true, decide_false] at a2 ⊢ <;> simp [part1, a1, a2]
    have hbl : (bads b l).length ≤ 20 := Nat.le_trans (List.length_filter_le ..) hl
    have hf1 : fitsL ((bads b l).map (e : T → PV)) = true := fits_len (by rw [List.length_map]; omega)
    have hf2 : fitsL (l.map (e : T → PV)) = true := fits_len (by rw [List.length_map]; omega)
    have e2 := eq_lst (α := T) (by decide) (bads b l) []
    rw [List.map_nil] at e2
    have h5 := sset_t d0 l (by omega) (Or.inl rfl)
    have e3 := eq_lst (α := T) (by decide) l (sd l)
    rw [decide_eq_decide.2 (sd_asc_iff l)] at e3
    by_cases hbad : bads b l = []
    · have hch := choice_good hbad
      rw [decide_eq_true hbad] at e2
      by_cases hasc : Asc l
      · have hsub : ∀ x ∈ l, x ∈ keys b := fun x hxl => by
          have := List.filter_eq_nil_iff.1 hbad x hxl
          simp at this
          simpa using this.2
        have h6 := c_lclosed hS hb hasc hsub
        have h7 := eqTs (cl b l) l
        rw [decide_eq_true hasc] at e3 hch
        rw [Bool.true_and] at hch
        have h8 : (decide (cl b l = l)) = choice b l := by rw [hch]; exact decide_eq_decide.2 Iff.rfl
        rw [h8] at h7
        refine ⟨z11, .fz (.bl true), ?_⟩
        simp [-List.map_map, t1, t2, t3, e1, hf1, e2, hf2, h5, e3, dictB, -bi_dict_d, h1, h6, h7, h4]
      · rw [decide_eq_false hasc] at e3 hch
        rw [Bool.false_and] at hch
        rw [hch] at h1 h4
        refine ⟨z11, .fz (.bl false), ?_⟩
        simp [-List.map_map, t1, t2, t3, e1, hf1, e2, hf2, h5, e3, dictB, -bi_dict_d, h1, h4]
    · have hch := choice_bad hbad
      rw [decide_eq_false hbad] at e2
      rw [hch] at h1 h4
      refine ⟨z11, .fz (.bl false), ?_⟩
      simp [-List.map_map, t1, t2, t3, e1, hf1, e2, dictB, -bi_dict_d, h1, h4]
end
end K45
end

section
/-! sizes: a turn of the law, all turns -/
set_option autoImplicit false
set_option linter.unusedSimpArgs false
set_option linter.unusedVariables false
set_option maxHeartbeats 4000000
namespace K45
open Ev Res PV
open Enc (e)
theorem free_e : (PV.tup [.str [103, 110, 117], .str [104, 101, 110], .str [105, 109, 112], .str [106, 97, 121], .str [107, 105, 100]]) = .tup (free5.map e) := rfl
section
variable {S : Store} {b : Bk} {w : Wr}
theorem law6 (hS : Sok S) (hb : IsB b) : ∀ (l : List PV) (z0 z1 z2 z4 z5 z6 z7 z8 z9 z10 z11 z12 z13 z14 z15 z16 z17 z18 z19 z20 z21 z22 z23 z24 : Sl), (∀ v ∈ l, Th b v) → ∃ (y11 y14 y20 : Sl), forL (.nm 14) (bodyB C gl 1000 L_law_6) l [z0, z1, z2, .fz (.dct (bD b)), z4, z5, z6, z7, z8, z9, z10, z11, z12, z13, z14, z15, z16, z17, z18, z19, z20, z21, z22, z23, z24] S =
    .ok (.nx, [z0, z1, z2, .fz (.dct (bD b)), z4, z5, z6, z7, z8, z9, z10, y11, z12, z13, y14, z15, z16, z17, z18, z19, y20, z21, z22, z23, z24], S)
  | [], z0, z1, z2, z4, z5, z6, z7, z8, z9, z10, z11, z12, z13, z14, z15, z16, z17, z18, z19, z20, z21, z22, z23, z24, _ => ⟨z11, z14, z20, for_nil ..⟩
  | v :: l, z0, z1, z2, z4, z5, z6, z7, z8, z9, z10, z11, z12, z13, z14, z15, z16, z17, z18, z19, z20, z21, z22, z23, z24, h => by
    obtain ⟨u11, u20, h1⟩ := thing_ok hS hb (h v List.mem_cons_self) (z0 := z0) (z1 := z1) (z2 := z2) (z4 := z4) (z5 := z5) (z6 := z6) (z7 := z7) (z8 := z8) (z9 := z9) (z10 := z10) (z11 := z11) (z12 := z12) (z13 := z13) (z15 := z15) (z16 := z16) (z17 := z17) (z18 := z18) (z19 := z19) (z20 := z20) (z21 := z21) (z22 := z22) (z23 := z23) (z24 := z24)
    obtain ⟨y11, y14, y20, h2⟩ := law6 hS hb l (z0) (z1) (z2) (z4) (z5) (z6) (z7) (z8) (z9) (z10) (u11) (z12) (z13) (.fz v) (z15) (z16) (z17) (z18) (z19) (u20) (z21) (z22) (z23) (z24) (fun x hx => h x (List.mem_cons_of_mem _ hx))
    refine ⟨y11, y14, y20, ?_⟩
    rw [for_cons, bindE_nm, ok_bind]
    simp only [List.set_cons_succ, List.set_cons_zero, bodyB_app]
    rw [h1, ok_bind]
    exact h2
theorem worths_ok (hS : Wst S) (hb : IsB b) {z0 z2 z4 z5 z6 z7 z8 z9 z10 z11 z12 z13 z14 z15 z16 z17 z18 z19 z20 z21 z22 z23 z24 : Sl} : ∃ (w : Wr) (S' : Store), eachL (part1 C gl [z0.val, some (.cel 0), z2.val, some (.dct (bD b)), z4.val, z5.val, z6.val, z7.val, z8.val, z9.val, z10.val, z11.val, z12.val, z13.val, z14.val, z15.val, z16.val, z17.val, z18.val, z19.val, z20.val, z21.val, z22.val, z23.val, z24.val] (.nm 11) [] (.tup [(.slot 11), (.tup [(.bin .add (.int 1) (.call 24 [(.slot 1), (.int 5)])), (.call 24 [(.slot 1), (.int 9)])])])) ((keys b).map e) S = .ok ((w.map fun p => PV.tup [e p.1, e p.2]), S') ∧ IsW b w ∧ Wst S' := by
  obtain ⟨ys, S1, h1, h2, h3, h4⟩ := each_st (en := e) (en' := fun p : T × (Int × Int) => PV.tup [e p.1, e p.2]) (f := part1 C gl [z0.val, some (.cel 0), z2.val, some (.dct (bD b)), z4.val, z5.val, z6.val, z7.val, z8.val, z9.val, z10.val, z11.val, z12.val, z13.val, z14.val, z15.val, z16.val, z17.val, z18.val, z19.val, z20.val, z21.val, z22.val, z23.val, z24.val] (.nm 11) [] (.tup [(.slot 11), (.tup [(.bin .add (.int 1) (.call 24 [(.slot 1), (.int 5)])), (.call 24 [(.slot 1), (.int 9)])])]))
    (I := fun (r : List T) (acc : Wr) S => Wst S ∧ acc.map (·.1) ++ r = keys b ∧ ∀ p ∈ acc, 1 ≤ p.2.1 ∧ p.2.1 ≤ 5 ∧ 0 ≤ p.2.2 ∧ p.2.2 ≤ 8) (fun x r acc S ⟨a1, a2, a3⟩ => by
      obtain ⟨i, S1, b1, b2, b3, b4⟩ := c_next a1 (m := 5) (by omega)
      obtain ⟨j, S2, c1, c2, c3, c4⟩ := c_next b4 (m := 9) (by omega)
      refine ⟨[(x, (1 + i, j))], S2, ?_, c4, by rw [← a2]; simp, fun p hp => ?_⟩
      · simp [-List.map_map, part1, b1, c1, e_pr, e_int]
      · rcases List.mem_append.1 hp with hp | hp
        · exact a3 p hp
        · rw [List.mem_singleton.1 hp]
          exact ⟨by simp only []; omega, by simp only []; omega, c2, by simp only []; omega⟩) (keys b) [] S ⟨hS, rfl, by simp⟩
  rw [List.append_nil] at h3
  exact ⟨ys, S1, h1, ⟨h3, h4⟩, h2⟩
theorem wdict (hb : IsB b) (hw : IsW b w) : builtin .dict [.lst (w.map fun p => PV.tup [e p.1, e p.2])] = .ok (.dct (wD w)) := by
  have hl : w.length ≤ 6 := by
    have := congrArg List.length hw.ks
    have h2 := keys_len hb
    rw [List.length_map] at this
    omega
  have h1 := pairs_e d0 (w.map fun p => (p.1, (e p.2 : PV)))
  rw [List.map_map] at h1
  have h2 : pairsOf (w.map fun p => PV.tup [e p.1, e p.2]) = .ok (wD w) := h1
  have h3 : dUpd [] (wD w) = wD w := by
    rw [wD, ← encD_nil (α := T), upd_e, updT_new, List.nil_append]
    rw [List.nil_append, List.map_map]
    have := hb.asc.nodup
    rw [← hw.ks] at this
    exact this
  rw [bi_dict_l, h2, ok_bind, need_of (fits_len (by rw [List.length_map]; omega)), ok_bind, h3]
theorem every_ok (hS : Sok S) (hb : IsB b) : C 30 [.tup ((keys b).map e)] S = .ok (.lst ((evr b).map eSn), S) := lsets_ok (k := 38) hS (keys_len hb)
theorem some_ok (hS : Wst S) (hb : IsB b) : ∃ (s : Sn) (S' : Store), s ∈ evr b ∧ C 25 [.cel 0, .lst ((evr b).map eSn)] S = .ok (eSn s, S') ∧ Wst S' :=
  pick_l (tab := tab) (gl := gl) (W := 1000) (f := 25) (fn := 24) rfl rfl (k := 37) hS eSn (fun x => eSn_cb 1 x) (fun hh => by
    have : ([] : Sn) ∈ evr b := allS_all List.Pairwise.nil (by simp)
    rw [hh] at this; cases this) (by have := evr_len hb; omega)
theorem turn_ok (env : Env) (S : Store) (t : Tn 25 env S) : Ends 25 (evB C gl 1000 env L_law_1 S) := by
  obtain ⟨hl, hw, hS⟩ := t
  match env, hl with
  | [z0, z1, z2, z3, z4, z5, z6, z7, z8, z9, z10, z11, z12, z13, z14, z15, z16, z17, z18, z19, z20, z21, z22, z23, z24], _ =>
    simp only [List.getElem?_cons_succ, List.getElem?_cons_zero, Option.some.injEq] at hw
    subst hw
    obtain ⟨b, S1, h1, hb, ⟨nk, hkw⟩, hS1⟩ := c_book hS
    refine Ends.go (env1 := [z0, .fz (.cel 0), z2, .fz (.dct (bD b)), z4, z5, z6, z7, z8, z9, z10, z11, z12, z13, z14, z15, z16, z17, z18, z19, z20, z21, z22, z23, z24]) (S1 := S1) ?_ ?_
    · simp [-List.map_map, free_e, h1, mkSl, show fitsL (free5.map (e : T → PV)) = true from rfl]
    obtain ⟨w, S2, h2, hw, hS2⟩ := worths_ok hS1 hb (z0 := z0) (z2 := z2) (z4 := z4) (z5 := z5) (z6 := z6) (z7 := z7) (z8 := z8) (z9 := z9) (z10 := z10) (z11 := z11) (z12 := z12) (z13 := z13) (z14 := z14) (z15 := z15) (z16 := z16) (z17 := z17) (z18 := z18) (z19 := z19) (z20 := z20) (z21 := z21) (z22 := z22) (z23 := z23) (z24 := z24)
    have hkeys : (bD b).map (·.1) = (keys b).map e := by rw [bD, encD_keys, show (List.map (fun p : T × List Sn => (p.1, eSs p.2)) b).map (·.1) = keys b from by rw [List.map_map]; rfl]
    have hwl : w.length ≤ 6 := by
      have := congrArg List.length hw.ks
      have h2 := keys_len hb
      rw [List.length_map] at this
      omega
    refine Ends.go (env1 := [z0, .fz (.cel 0), z2, .fz (.dct (bD b)), .ow (.dct (wD w)), z5, z6, z7, z8, z9, z10, z11.freeze, z12, z13, z14, z15, z16, z17, z18, z19, z20, z21, z22, z23, z24]) (S1 := S2) ?_ ?_
    · have hf : fitsL (w.map fun p => PV.tup [e p.1, e p.2]) = true := fits_len (by rw [List.length_map]; omega)
      have hd := wdict hb hw
      simp [-List.map_map, hkeys, h2, hf, hd, -bi_dict_l]
    have hs2 := hS2.sok
    have hbl := hb.len
    have hkl := keys_len hb
    have hsk := sort_keys hb
    have hfk : fitsL ((keys b).map (e : T → PV)) = true := fits_len (by rw [List.length_map]; omega)
    have h3 := every_ok hs2 hb
    refine Ends.go (env1 := [z0, .fz (.cel 0), z2, .fz (.dct (bD b)), .ow (.dct (wD w)), .fz (.lst ((evr b).map eSn)), z6, z7, z8, z9, z10, z11.freeze, z12, z13, z14, z15, z16, z17, z18, z19, z20, z21, z22, z23, z24]) (S1 := S2) ?_ ?_
    · simp [-List.map_map, hsk, hfk, h3]
    obtain ⟨s, S3, hs, h4, hS3⟩ := some_ok hS2 hb
    obtain ⟨sa, ssub, slen⟩ := evr_sub hb hs
    refine Ends.go (env1 := [z0, .fz (.cel 0), z2, .fz (.dct (bD b)), .ow (.dct (wD w)), .fz (.lst ((evr b).map eSn)), .fz (eSn s), z7, z8, z9, z10, z11.freeze, z12, z13, z14, z15, z16, z17, z18, z19, z20, z21, z22, z23, z24]) (S1 := S3) ?_ ?_
    · simp [-List.map_map, h4, eSn_mk]
    have hs3 := hS3.sok
    refine Ends.go (env1 := [z0, .fz (.cel 0), z2, .fz (.dct (bD b)), .ow (.dct (wD w)), .fz (.lst ((evr b).map eSn)), .fz (eSn s), z7, z8, z9, z10, z11.freeze, z12, z13, z14, z15, z16, z17, z18, z19, z20, z21, z22, z23, z24]) (S1 := S3) ?_ ?_
    · have k1 := c_closed hs3 hb sa.nodup ssub
      have k2 := c_lclosed hs3 hb sa ssub
      have k3 := eqTs (cl b s) (cl b s)
      simp [-List.map_map, eSn, dictB, -bi_dict_d, k1, k2, k3]
    have sm1 := bi_sum (s.map fun x => (wv w x).1)
    have sm2 := bi_sum (s.map fun x => (wv w x).2)
    refine Ends.go (env1 := [z0, .fz (.cel 0), z2, .fz (.dct (bD b)), .ow (.dct (wD w)), .fz (.lst ((evr b).map eSn)), .fz (eSn s), z7, z8, z9, z10, z11.freeze, z12, z13, z14, z15, z16, z17, z18, z19, z20, z21, z22, z23, z24]) (S1 := S3) ?_ ?_
    · have k1 := c_lines hs3 hw ssub (by omega)
      have k2 := c_worth hs3 hw ssub (by omega)
      have f1 : fitsL ((s.map fun x => (wv w x).1).map PV.int) = true := fits_len (by rw [List.length_map, List.length_map]; omega)
      have f2 : fitsL ((s.map fun x => (wv w x).2).map PV.int) = true := fits_len (by rw [List.length_map, List.length_map]; omega)
      have q1 := sum1 (cf := C) (S := S3) (env := [z0.val, some (.cel 0), z2.val, some (.dct (bD b)), some (.dct (wD w)), some (.lst ((evr b).map eSn)), some (.tup (s.map e)), z7.val, z8.val, z9.val, z10.val, z11.freeze.val, z12.val, z13.val, z14.val, z15.val, z16.val, z17.val, z18.val, z19.val, z20.val, z21.val, z22.val, z23.val, z24.val]) (i := 4) (j := 11) hw ssub (by decide) rfl (by simp)
      have q2 := sum2 (cf := C) (S := S3) (env := [z0.val, some (.cel 0), z2.val, some (.dct (bD b)), some (.dct (wD w)), some (.lst ((evr b).map eSn)), some (.tup (s.map e)), z7.val, z8.val, z9.val, z10.val, z11.freeze.val, z12.val, z13.val, z14.val, z15.val, z16.val, z17.val, z18.val, z19.val, z20.val, z21.val, z22.val, z23.val, z24.val]) (i := 4) (j := 11) hw ssub (by decide) rfl (by simp)
      simp only [freeze_val] at q1 q2
      have r1 : (s.map fun x => (wv w x).1).sum = lin w s := rfl
      have r2 : (s.map fun x => (wv w x).2).sum = wor w s := rfl
      simp [-List.map_map, eSn, dictW, -bi_dict_d, k1, k2, q1, q2, f1, f2, sm1, sm2, r1, r2]
    have hal := ables_len hb
    have hel := evr_len hb
    refine Ends.go (env1 := [z0, .fz (.cel 0), z2, .fz (.dct (bD b)), .ow (.dct (wD w)), .fz (.lst ((evr b).map eSn)), .fz (eSn s), .ow (.lst ((ables b).map eSn)), z8, z9, z10, z11.freeze, z12, z13, z14, z15, z16, z17, z18, z19, z20, z21.freeze, z22, z23, z24]) (S1 := S3) ?_ ?_
    · have q1 : eachL (part1 C gl [z0.val, some (.cel 0), z2.val, some (.dct (bD b)), some (.dct (wD w)), some (.lst ((evr b).map eSn)), some (eSn s), z7.val, z8.val, z9.val, z10.val, z11.freeze.val, z12.val, z13.val, z14.val, z15.val, z16.val, z17.val, z18.val, z19.val, z20.val, z21.val, z22.val, z23.val, z24.val] (.nm 21) [(.cmp .eq (.call 31 [(.slot 3), (.slot 21)]) (.slot 21))] (.slot 21)) ((evr b).map eSn) S3 = .ok ((ables b).map eSn, S3) := each_flt fun r hr => by
        obtain ⟨a1, a2, a3⟩ := evr_sub hb hr
        have h3 := c_lclosed hs3 hb a1 a2
        have h4 := eqTs (cl b r) r
        simp [part1, eSn, h3, h4]
        split <;> rfl
      have f1 : fitsL ((ables b).map eSn) = true := fits_len (by rw [List.length_map]; omega)
      simp only [freeze_val] at q1
      simp [-List.map_map, q1, f1]
    refine Ends.go (env1 := [z0, .fz (.cel 0), z2, .fz (.dct (bD b)), .ow (.dct (wD w)), .fz (.lst ((evr b).map eSn)), .fz (eSn s), .ow (.lst ((ables b).map eSn)), .ow (.lst ((ables b).map (R4 w))), z9, z10, z11.freeze, z12, z13, z14, z15, z16, z17, z18, z19, z20, z21.freeze, z22, z23, z24]) (S1 := S3) ?_ ?_
    · have q1 : eachL (part1 C gl [z0.val, some (.cel 0), z2.val, some (.dct (bD b)), some (.dct (wD w)), some (.lst ((evr b).map eSn)), some (eSn s), some (.lst ((ables b).map eSn)), z8.val, z9.val, z10.val, z11.freeze.val, z12.val, z13.val, z14.val, z15.val, z16.val, z17.val, z18.val, z19.val, z20.val, z21.freeze.val, z22.val, z23.val, z24.val] (.nm 21) [] (.tup [(.neg (.bi .sum [(.comp [.mk (.nm 11) (.val (.slot 21)) []] (.idx (.idx (.slot 4) (.slot 11)) (.int 1)))])), (.bi .len [(.slot 21)]), (.slot 21), (.bi .sum [(.comp [.mk (.nm 11) (.val (.slot 21)) []] (.idx (.idx (.slot 4) (.slot 11)) (.int 0)))])])) ((ables b).map eSn) S3 = .ok ((ables b).map (R4 w), S3) := each_map (g := fun r => r) (en' := R4 w) (fun r hr => by
        obtain ⟨a1, a2, a3, a4⟩ := ables_sub hb hr
        have u1 := sum1 (cf := C) (S := S3) (env := [z0.val, some (.cel 0), z2.val, some (.dct (bD b)), some (.dct (wD w)), some (.lst ((evr b).map eSn)), some (eSn s), some (.lst ((ables b).map eSn)), z8.val, z9.val, z10.val, z11.freeze.val, z12.val, z13.val, z14.val, z15.val, z16.val, z17.val, z18.val, z19.val, z20.val, some (.tup (r.map e)), z22.val, z23.val, z24.val]) (i := 4) (j := 11) hw a2 (by decide) rfl (by simp)
        have u2 := sum2 (cf := C) (S := S3) (env := [z0.val, some (.cel 0), z2.val, some (.dct (bD b)), some (.dct (wD w)), some (.lst ((evr b).map eSn)), some (eSn s), some (.lst ((ables b).map eSn)), z8.val, z9.val, z10.val, z11.freeze.val, z12.val, z13.val, z14.val, z15.val, z16.val, z17.val, z18.val, z19.val, z20.val, some (.tup (r.map e)), z22.val, z23.val, z24.val]) (i := 4) (j := 11) hw a2 (by decide) rfl (by simp)
        have f1 : fitsL ((r.map fun x => (wv w x).1).map PV.int) = true := fits_len (by rw [List.length_map, List.length_map]; omega)
        have f2 : fitsL ((r.map fun x => (wv w x).2).map PV.int) = true := fits_len (by rw [List.length_map, List.length_map]; omega)
        have m1 := bi_sum (r.map fun x => (wv w x).1)
        have m2 := bi_sum (r.map fun x => (wv w x).2)
        have r1 : (r.map fun x => (wv w x).1).sum = lin w r := rfl
        have r2 : (r.map fun x => (wv w x).2).sum = wor w r := rfl
        simp only [eSn, freeze_val] at u1 u2
        simp [-List.map_map, part1, eSn, u1, u2, f1, f2, m1, m2, r1, r2, R4]) |>.trans (by rw [List.map_id'])
      have f1 : fitsL ((ables b).map (R4 w)) = true := fits_len (by rw [List.length_map]; omega)
      simp only [freeze_val] at q1
      simp [-List.map_map, q1, f1]
    obtain ⟨n0, S4, h5, hn0, hn1, hS4⟩ := c_next hS3 (m := 14) (by omega)
    obtain ⟨n, rfl⟩ : ∃ n : Nat, n0 = (n : Int) := ⟨n0.toNat, (Int.toNat_of_nonneg hn0).symm⟩
    have hs4 := hS4.sok
    refine Ends.go (env1 := [z0, .fz (.cel 0), z2, .fz (.dct (bD b)), .ow (.dct (wD w)), .fz (.lst ((evr b).map eSn)), .fz (eSn s), .ow (.lst ((ables b).map eSn)), .ow (.lst ((ables b).map (R4 w))), z9, z10, z11.freeze, z12, z13, z14, .fz (.int n), .ow (.lst []), z17, z18, z19, z20, z21.freeze, z22, z23, z24]) (S1 := S4) ?_ ?_
    · simp [-List.map_map, h5]
    obtain ⟨y9, y24, l2⟩ := law2 hs4 hb hw (n := n + 1) (by omega) (z0 := z0) (z1 := .fz (.cel 0)) (z2 := z2) (z3 := .fz (.dct (bD b))) (z4 := .ow (.dct (wD w))) (z5 := .fz (.lst ((evr b).map eSn))) (z6 := .fz (eSn s)) (z7 := .ow (.lst ((ables b).map eSn))) (z9 := z9) (z10 := z10) (z11 := z11.freeze) (z12 := z12) (z13 := z13) (z14 := z14) (z15 := .fz (.int n)) (z17 := z17) (z18 := z18) (z19 := z19) (z20 := z20) (z21 := z21.freeze) (z22 := z22) (z23 := z23) (z24 := z24)
    have hr : rangeL 0 ((n : Int) + 1) 1 = (List.range (n + 1)).map fun (k : Nat) => PV.int k := range_e (n + 1)
    have hsm : small62 ((n : Int) + 1) = true := small_of (by omega) (by omega)
    have hi : ((n : Int) + 1 ≤ 16777216) := by omega
    refine Ends.go (env1 := [z0, .fz (.cel 0), z2, .fz (.dct (bD b)), .ow (.dct (wD w)), .fz (.lst ((evr b).map eSn)), .fz (eSn s), .ow (.lst ((ables b).map eSn)), .ow (.lst ((ables b).map (R4 w))), y9, z10, z11.freeze, z12, z13, z14, .fz (.int n), .ow (.lst (((List.range (n + 1)).map fun (j : Nat) => bestR b w j).map e)), z17, z18, z19, z20, z21.freeze, z22, z23, y24]) (S1 := S4) ?_ ?_
    · simp [-List.map_map, hr, hsm, hi, l2]
    have kb := c_best hs4 hb hw (m := (n : Int)) (by omega)
    have ky := c_byl hs4 hb hw (n := n) (by omega)
    have hlast : atL (((List.range (n + 1)).map fun (j : Nat) => bestR b w j).map (e : Tr Int Int (Tp T) → PV)) (-1) = some (e (bestR b w n)) := atL_last e (by rw [List.range_succ, List.map_append]; simp)
    refine Ends.go (env1 := [z0, .fz (.cel 0), z2, .fz (.dct (bD b)), .ow (.dct (wD w)), .fz (.lst ((evr b).map eSn)), .fz (eSn s), .ow (.lst ((ables b).map eSn)), .ow (.lst ((ables b).map (R4 w))), y9, z10, z11.freeze, z12, z13, z14, .fz (.int n), .ow (.lst (((List.range (n + 1)).map fun (j : Nat) => bestR b w j).map e)), z17, z18, z19, z20, z21.freeze, z22, z23, y24]) (S1 := S4) ?_ ?_
    · have q1 : eachL (part1 C gl [z0.val, some (.cel 0), z2.val, some (.dct (bD b)), some (.dct (wD w)), some (.lst ((evr b).map eSn)), some (eSn s), some (.lst ((ables b).map eSn)), some (.lst ((ables b).map (R4 w))), y9.val, z10.val, z11.freeze.val, z12.val, z13.val, z14.val, some (.int n), some (.lst (((List.range (n + 1)).map fun (j : Nat) => bestR b w j).map e)), z17.val, z18.val, z19.val, z20.val, z21.freeze.val, z22.val, z23.val, y24.val] (.nm 24) [] (.neg (.idx (.slot 24) (.int 0)))) (((List.range (n + 1)).map fun (j : Nat) => bestR b w j).map e) S4 = .ok (((List.range (n + 1)).map fun (j : Nat) => -(bestR b w j).a).map .int, S4) := Eq.trans (each_map (g := fun t : Tr Int Int (Tp T) => -t.a) (en' := PV.int) fun t _ => by
        simp [part1, e_int]) (by simp only [List.map_map]; rfl)
      have hlen : ((List.range (n + 1)).map fun (j : Nat) => -(bestR b w j).a).length = n + 1 := by simp
      have e5 := eq_tup (α := Int) (by decide) ((List.range (n + 1)).map fun (j : Nat) => -(bestR b w j).a) ((List.range (n + 1)).map fun (j : Nat) => -(bestR b w j).a)
      rw [show (e : Int → PV) = PV.int from rfl] at e5
      generalize ((List.range (n + 1)).map fun (j : Nat) => -(bestR b w j).a) = L at q1 ky e5 hlen
      generalize ((List.range (n + 1)).map fun (j : Nat) => bestR b w j) = M at q1 hlast
      have f1 : fitsL (L.map PV.int) = true := fits_len (by rw [List.length_map]; omega)
      have c1 : (e (bestR b w n).a : PV) = .int (bestR b w n).a := rfl
      have c2 : (e (bestR b w n).c : PV) = .tup ((bestR b w n).c.l.map e) := rfl
      have e6 : eqE (.tup [.int (-(bestR b w n).a), .tup ((bestR b w n).c.l.map e)]) (.tup [.int (-(bestR b w n).a), .tup ((bestR b w n).c.l.map e)]) = .ok true := by
        have := eq_e (α := Int × Tp T) (by decide) (-(bestR b w n).a, (bestR b w n).c) (-(bestR b w n).a, (bestR b w n).c)
        rw [decide_eq_true rfl] at this
        exact this
      simp only [freeze_val] at q1
      simp [-List.map_map, dictB, dictW, -bi_dict_d, kb, ky, hlast, q1, f1, e5, c1, c2, e6]
    refine Ends.go (env1 := [z0, .fz (.cel 0), z2, .fz (.dct (bD b)), .ow (.dct (wD w)), .fz (.lst ((evr b).map eSn)), .fz (eSn s), .ow (.lst ((ables b).map eSn)), .ow (.lst ((ables b).map (R4 w))), y9, .ow (.lst []), z11.freeze, z12, z13, z14, .fz (.int n), .ow (.lst (((List.range (n + 1)).map fun (j : Nat) => bestR b w j).map e)), z17, z18, z19, z20, z21.freeze, z22, z23, y24]) (S1 := S4) ?_ ?_
    · simp
    obtain ⟨u11, u17, u18, u21, u24, l3⟩ := law3 hs4 hb hw (m := (n : Int)) (z0 := z0) (z1 := .fz (.cel 0)) (z2 := z2) (z5 := .fz (.lst ((evr b).map eSn))) (z6 := .fz (eSn s)) (z7 := .ow (.lst ((ables b).map eSn))) (z9 := y9) (z11 := z11.freeze) (z12 := z12) (z13 := z13) (z14 := z14) (z16 := .ow (.lst (((List.range (n + 1)).map fun (j : Nat) => bestR b w j).map e))) (z17 := z17) (z18 := z18) (z19 := z19) (z20 := z20) (z21 := z21.freeze) (z22 := z22) (z23 := z23) (z24 := y24)
    refine Ends.go (env1 := [z0, .fz (.cel 0), z2, .fz (.dct (bD b)), .ow (.dct (wD w)), .fz (.lst ((evr b).map eSn)), .fz (eSn s), .ow (.lst ((ables b).map eSn)), .ow (.lst ((ables b).map (R4 w))), y9, .ow (.lst ((lotsC b).map e)), u11, z12, z13, z14, .fz (.int n), .ow (.lst (((List.range (n + 1)).map fun (j : Nat) => bestR b w j).map e)), u17, u18, z19, z20, u21, z22, z23, u24]) (S1 := S4) ?_ ?_
    · simp [-List.map_map, hsk, l3]
    refine Ends.go (env1 := [z0, .fz (.cel 0), z2, .fz (.dct (bD b)), .ow (.dct (wD w)), .fz (.lst ((evr b).map eSn)), .fz (eSn s), .ow (.lst ((ables b).map eSn)), .ow (.lst ((ables b).map (R4 w))), y9, .ow (.lst ((lotsC b).map e)), u11, z12, z13, z14, .fz (.int n), .ow (.lst (((List.range (n + 1)).map fun (j : Nat) => bestR b w j).map e)), u17, u18, z19, z20, u21, z22, z23, u24]) (S1 := S4) ?_ ?_
    · have k1 := c_lots hs4 hb
      have k2 := lots_sset hb
      have k3 := sd_len (lotsC b)
      have k4 : (lotsC b).length ≤ 6 := by rw [lotsC, List.length_map]; exact hkl
      have f1 : fitsL ((sd (lotsC b)).map (e : Tp T → PV)) = true := fits_len (by rw [List.length_map]; omega)
      have e5 := eq_tup (α := Tp T) (by decide) (sd (lotsC b)) (sd (lotsC b))
      simp [-List.map_map, dictB, -bi_dict_d, k1, k2, f1, e5]
    refine Ends.go (env1 := [z0, .fz (.cel 0), z2, .fz (.dct (bD b)), .ow (.dct (wD w)), .fz (.lst ((evr b).map eSn)), .fz (eSn s), .ow (.lst ((ables b).map eSn)), .ow (.lst ((ables b).map (R4 w))), y9, .ow (.lst ((lotsC b).map e)), u11, .fz (.tup []), z13, z14, .fz (.int n), .ow (.lst (((List.range (n + 1)).map fun (j : Nat) => bestR b w j).map e)), u17, u18, z19, z20, u21, z22, z23, u24]) (S1 := S4) ?_ ?_
    · simp
    obtain ⟨v9, v11, v13, v19, v21, v22, v23, l4⟩ := law4 hs4 hb hw (m := (n : Int)) (z0 := z0) (z1 := .fz (.cel 0)) (z2 := z2) (z5 := .fz (.lst ((evr b).map eSn))) (z6 := .fz (eSn s)) (z7 := .ow (.lst ((ables b).map eSn))) (z8 := .ow (.lst ((ables b).map (R4 w)))) (z9 := y9) (z10 := .ow (.lst ((lotsC b).map e))) (z11 := u11) (z13 := z13) (z14 := z14) (z16 := .ow (.lst (((List.range (n + 1)).map fun (j : Nat) => bestR b w j).map e))) (z17 := u17) (z18 := u18) (z19 := z19) (z20 := z20) (z21 := u21) (z22 := z22) (z23 := z23) (z24 := u24)
    refine Ends.go (env1 := [z0, .fz (.cel 0), z2, .fz (.dct (bD b)), .ow (.dct (wD w)), .fz (.lst ((evr b).map eSn)), .fz (eSn s), .ow (.lst ((ables b).map eSn)), .ow (.lst ((ables b).map (R4 w))), v9, .ow (.lst ((lotsC b).map e)), v11, .fz (.tup ((grown b w n).map e)), v13, z14, .fz (.int n), .ow (.lst (((List.range (n + 1)).map fun (j : Nat) => bestR b w j).map e)), u17, u18, v19, z20, v21, v22, v23, u24]) (S1 := S4) ?_ ?_
    · have hlen : (bD b).length = b.length := by simp [bD]
      have hi2 : ((b.length : Int) ≤ 16777216) := by omega
      simp [-List.map_map, hlen, small_nat (by omega : b.length ≤ 16777216), hi2, range_e, l4]
    refine Ends.go (env1 := [z0, .fz (.cel 0), z2, .fz (.dct (bD b)), .ow (.dct (wD w)), .fz (.lst ((evr b).map eSn)), .fz (eSn s), .ow (.lst ((ables b).map eSn)), .ow (.lst ((ables b).map (R4 w))), v9, .ow (.lst ((lotsC b).map e)), v11, .fz (.tup ((grown b w n).map e)), v13, z14, .fz (.int n), .ow (.lst (((List.range (n + 1)).map fun (j : Nat) => bestR b w j).map e)), u17, u18, v19, z20, v21, v22, v23, u24]) (S1 := S4) ?_ ?_
    · have k1 := c_grown hs4 hb hw (n : Int)
      have e5 := eqTs (grown b w n) (grown b w n)
      simp [-List.map_map, dictB, dictW, -bi_dict_d, k1, e5]
    have hnm : ∀ x ∈ keys b, x.s.length ≤ 10 := fun x hx => (hb.nm x hx).2
    have hcut : (cut s (some (-1)) none).length ≤ s.length := by unfold cut; rw [List.length_drop, List.length_take]; omega
    have hcs : ∀ x ∈ cut s (some (-1)) none, x ∈ s := fun x hx => List.mem_of_mem_take (List.mem_of_mem_drop hx)
    obtain ⟨x11, x14, x20, l6⟩ := law6 hs4 hb [.tup (s.map e), .tup ((cl b s).map e), .lst (s.map e), .non, .tup (([] : List T).map e), .tup (s.reverse.map e), .tup ((s ++ cut s (some (-1)) none).map e), .tup ((s ++ [(⟨[122, 111, 111]⟩ : T)]).map e), .tup (s.map e ++ [PV.int 3]), .tup (([⟨[103, 110, 117]⟩] : List T).map e), .tup ((keys b).map e)]
      (z0) (.fz (.cel 0)) (z2) (.ow (.dct (wD w))) (.fz (.lst ((evr b).map eSn))) (.fz (eSn s)) (.ow (.lst ((ables b).map eSn))) (.ow (.lst ((ables b).map (R4 w)))) (v9) (.ow (.lst ((lotsC b).map e))) (v11) (.fz (.tup ((grown b w n).map e))) (v13) (z14) (.fz (.int n)) (.ow (.lst (((List.range (n + 1)).map fun (j : Nat) => bestR b w j).map e))) (u17) (u18) (v19) (z20) (v21) (v22) (v23) (u24) (fun v hv => by
        simp only [List.mem_cons, List.not_mem_nil, or_false] at hv
        rcases hv with rfl | rfl | rfl | rfl | rfl | rfl | rfl | rfl | rfl | rfl | rfl
        · exact .tup _ (by omega) fun x hx => hnm x (ssub x hx)
        · exact .tup _ (by have := cl_len hb s; omega) fun x hx => hnm x (cl_sub hx)
        · exact .lst _
        · exact .non
        · exact .tup [] (by simp) (by simp)
        · exact .tup _ (by rw [List.length_reverse]; omega) fun x hx => hnm x (ssub x (List.mem_reverse.1 hx))
        · exact .tup _ (by rw [List.length_append]; omega) fun x hx => hnm x (ssub x ((List.mem_append.1 hx).elim id (hcs x)))
        · refine .tup _ (by rw [List.length_append, List.length_singleton]; omega) fun x hx => ?_
          rcases List.mem_append.1 hx with hx | hx
          · exact hnm x (ssub x hx)
          · rw [List.mem_singleton.1 hx]; decide
        · exact .tup3 _ (by omega) fun x hx => hnm x (ssub x hx)
        · refine .tup _ (by decide) fun x hx => ?_
          rw [List.mem_singleton.1 hx]; decide
        · exact .tup _ (by omega) hnm)
    refine Ends.go (env1 := [z0, .fz (.cel 0), z2, .fz (.dct (bD b)), .ow (.dct (wD w)), .fz (.lst ((evr b).map eSn)), .fz (eSn s), .ow (.lst ((ables b).map eSn)), .ow (.lst ((ables b).map (R4 w))), v9, .ow (.lst ((lotsC b).map e)), x11, .fz (.tup ((grown b w n).map e)), v13, x14, .fz (.int n), .ow (.lst (((List.range (n + 1)).map fun (j : Nat) => bestR b w j).map e)), u17, u18, v19, x20, v21, v22, v23, u24]) (S1 := S4) ?_ ?_
    · have k2 := c_lclosed hs4 hb sa ssub
      have hc := cut_map (e : T → PV) s (some (-1)) none
      have f1 : fitsL (s.map (e : T → PV)) = true := fits_len (by rw [List.length_map]; omega)
      have f2 : fitsL (s.map (e : T → PV) ++ (cut s (some (-1)) none).map e) = true := fits_len (by rw [List.length_append, List.length_map, List.length_map]; omega)
      have f3 : fitsL (s.map (e : T → PV) ++ [PV.str [122, 111, 111]]) = true := fits_len (by rw [List.length_append, List.length_map, List.length_singleton]; omega)
      have f4 : fitsL (s.map (e : T → PV) ++ [PV.int 3]) = true := fits_len (by rw [List.length_append, List.length_map, List.length_singleton]; omega)
      have g1 : ((s ++ [(⟨[122, 111, 111]⟩ : T)]).map (e : T → PV)) = s.map e ++ [PV.str [122, 111, 111]] := by rw [List.map_append]; rfl
      have g2 : (([⟨[103, 110, 117]⟩] : List T).map (e : T → PV)) = [PV.str [103, 110, 117]] := rfl
      have g3 : ((s ++ cut s (some (-1)) none).map (e : T → PV)) = s.map e ++ (cut s (some (-1)) none).map e := List.map_append ..
      have g4 : (s.reverse.map (e : T → PV)) = (s.map e).reverse := List.map_reverse ..
      rw [g1, g2, g3, g4] at l6
      simp only [List.map_nil] at l6
      have f5 (a b c d e f g h i j k : PV) : fitsL [a, b, c, d, e, f, g, h, i, j, k] = true := rfl
      simp [-List.map_map, -List.map_reverse, eSn, k2, f1, hc, f2, f3, f4, hsk, hfk, f5] at l6 ⊢
      exact l6
    exact Ends.nil ⟨rfl, rfl, hS4⟩
theorem law_ok (ns : List Int) (hns : ns.length ≤ 63) : callAt tab gl 1000 40 32 [.scr ns] [] = .ok (.bl true, []) :=
  law_turns (N := 25) (d := 23) (m := 400) (n := 3) (L := L_law_1) (k := 38) (by decide) rfl rfl (by decide) (by decide) (by decide) (by decide) turn_ok hns
end
end K45
end

section
set_option Elab.async false
set_option maxRecDepth 100000
namespace K45
def wh : Nat := 1000
def lev : Nat := 40
theorem holds : ∀ ns : List Int, ns.length ≤ 63 → ∃ S, Ev.callAt (Ds.map (·.fc)) (fun g => (gs[g]?).map fun p => .str p.2) wh lev 32 [.scr ns] [] = .ok (.bl true, S) := fun ns h => ⟨[], law_ok ns h⟩
end K45
open PySem PySem.W PySem.Calls PyProof.Rows
set_option maxRecDepth 100000 in
set_option maxHeartbeats 0 in
theorem PySem.Challenge.cw_toldbywords_k45_whole_books_cut_to_a_siz_holds : PySem.Challenge.rw_toldbywords_k45_whole_books_cut_to_a_siz.Holds := by
  w_on; o_law
  refine HandSHeadRun.head_any (r := OpenLaw.row PySem.Challenge.rw_toldbywords_k45_whole_books_cut_to_a_siz) (q := view (OpenLaw.row PySem.Challenge.rw_toldbywords_k45_whole_books_cut_to_a_siz).prog [37]) (H := K45.hk) (ob := K45.ob) (M := 2000) (loose := K45.names) (d := HandSHeadRun.topDef (OpenLaw.row PySem.Challenge.rw_toldbywords_k45_whole_books_cut_to_a_siz).prog 37) (kwd := []) K45.ob_eq
    (by kernel_rfl) (fun s => by kernel_rfl) K45.run (by kernel_rfl) (by kernel_rfl) (by kernel_rfl) (by kernel_rfl) (by first | assumption | decide +kernel) (by decide +kernel) ⟨by kernel_rfl, by kernel_rfl, by kernel_rfl, by kernel_rfl, by kernel_rfl, by decide +kernel⟩ ?hw ?hc
  case hw => w_witness2
  case hc =>
    refine L2.walk_ofE (l := PySem.Challenge.rw_toldbywords_k45_whole_books_cut_to_a_siz) (n := 63) (k := K45.lev) (x := "script") (CX := EvB.noX) rfl (by decide) (by kernel_rfl) ⟨rfl, by decide, by decide⟩ ?F (fun _ _ _ _ z => z)
    intro w mg fa h Y G hmg0
    obtain ⟨K, KX, c⟩ := Y
    have hmg : mg ("law" : PySem.Str) = some (.ref fa) := by
      have e : (HandSHeadRun.topDef (OpenLaw.row PySem.Challenge.rw_toldbywords_k45_whole_books_cut_to_a_siz).prog 37).name = ("law" : PySem.Str) := by kernel_rfl
      rw [← e]
      exact hmg0
    obtain ⟨fd, sp, hb, hs, hF⟩ := EvB.law_end (P := (PySem.Challenge.rw_toldbywords_k45_whole_books_cut_to_a_siz).prog) (w := w) (n := 60) (W := K45.wh) (k := K45.lev) (iL := 32) (D := K45.D32) KX G c K45.hd K45.hB K45.ln K45.pn (by decide +kernel) (by rw [K45.gn]; exact hmg) K45.holds
    exact ⟨K, fd, sp, KX, hb, hs, hF⟩
end
