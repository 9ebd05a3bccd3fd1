import PyProof.Rows.All
import HandS.ForMost
import HandS.Wide
import KE.DataCmp
import KE.DataMinMax
import KE.DataAny
import KE.DataIsa
import KE.DataFind
import KE.KTupSum
import KE.SortData
import KE.KDictKeyed
import HandS.Text
import HandS.TupAny
import HandS.TupMul
import HandS.IsInst
import HandS.TupLe
import HandS.Flt
import HandS.Style
import KE.DataEq
import PyProof.SeqIndex
import HandS.TupSets
import HandS.Strs
import HandS.Flow
import KE.GoesMore
import HandS.Iter
import HandS.Zip
import HandS.Rev
import HandS.Conv
import HandS.NoneIn
import HandS.Ends
import PyProof.FitsInt
import PyProof.ReprText
import PySem.Challenge.RW_pairtally_k05_webs_written_and_read
set_option Elab.async false
set_option linter.all false
set_option maxRecDepth 100000
/-! Mir, part A: mirror values (PyData), the small language and its evaluator. -/
namespace Mir
open PySem

abbrev D := PyData
abbrev MEnv := List (Option D)

inductive Res (α : Type) where
  | ok (a : α)
  | bad

namespace Res
@[inline] def bind {α β : Type} (x : Res α) (f : α → Res β) : Res β := match x with
  | .ok a => f a
  | .bad => .bad
instance : Monad Res where
  pure := .ok
  bind := bind
theorem bind_ok {α β : Type} (a : α) (f : α → Res β) : (Res.ok a >>= f) = f a := rfl
theorem bind_bad {α β : Type} (f : α → Res β) : ((Res.bad : Res α) >>= f) = .bad := rfl
theorem bind_eq_ok {α β : Type} {x : Res α} {f : α → Res β} {b : β} : (x >>= f) = .ok b ↔ ∃ a, x = .ok a ∧ f a = .ok b := by
  cases x with
  | ok a => exact ⟨fun h => ⟨a, rfl, h⟩, fun ⟨a', e, h⟩ => by cases e; exact h⟩
  | bad => exact ⟨fun h => (nomatch h), fun ⟨a', e, _⟩ => (nomatch e)⟩
def ofO {α : Type} : Option α → Res α
  | some a => .ok a
  | none => .bad
def guard (c : Bool) : Res Unit := if c = true then .ok () else .bad
theorem guard_ok {c : Bool} {u : Unit} : guard c = .ok u ↔ c = true := by
  unfold guard
  cases c <;> simp
end Res
open Res

/-! ### primitive operations on resolved values -/
def mulOk (i j : Int) : Bool := decide (i.natAbs < 2 ^ 64) || decide (j.natAbs < 2 ^ 64) || decide (i.natAbs.log2 + j.natAbs.log2 < 1000000)
def divOk (j : Int) : Bool := decide (j ≠ 0) && decide (j.natAbs.log2 < 9000)
def fitN (n : Nat) : Bool := decide (n ≤ sizeLine)

def intOf : D → Res Int
  | .int i => .ok i
  | _ => .bad
def boolOf : D → Res Bool
  | .bool b => .ok b
  | _ => .bad
def intsOf : List D → Res (List Int)
  | [] => .ok []
  | .int i :: r => do let l ← intsOf r; pure (i :: l)
  | _ :: _ => .bad
def boolsOf : List D → Res (List Bool)
  | [] => .ok []
  | .bool b :: r => do let l ← boolsOf r; pure (b :: l)
  | _ :: _ => .bad
/-- the items of a list or tuple -/
def seqOf : D → Res (List D)
  | .list xs => .ok xs
  | .tuple xs => .ok xs
  | _ => .bad

def ixOf (n : Nat) (i : Int) : Option Nat := if 0 ≤ i then (if i < n then some i.toNat else none) else if -(n : Int) ≤ i then some (i + n).toNat else none
/-- an end of a slice, clamped -/
def cutAt (n : Nat) (i : Int) : Nat := if 0 ≤ i then min i.toNat n else (i + n).toNat
def cutL {α : Type} (xs : List α) (lo hi : Nat) : List α := (xs.drop lo).take (hi - lo)

def pAdd : D → D → Res D
  | .int a, .int b => .ok (.int (a + b))
  | .str a, .str b => do guard (fitN (a.length + b.length)); pure (.str (a ++ b))
  | .tuple a, .tuple b => do guard (fitN (a.length + b.length)); pure (.tuple (a ++ b))
  | .list a, .list b => do guard (fitN (a.length + b.length)); pure (.list (a ++ b))
  | _, _ => .bad
def pSub : D → D → Res D
  | .int a, .int b => .ok (.int (a - b))
  | _, _ => .bad
def pMul : D → D → Res D
  | .int a, .int b => do guard (mulOk a b); pure (.int (a * b))
  | .tuple xs, .int k => do guard (decide (xs.length ≤ 1000) && decide (0 ≤ k) && decide (k ≤ 1000)); pure (.tuple (List.replicate k.toNat xs).flatten)
  | _, _ => .bad
/-- [x] * k, (x,) * k -/
def pRepL : D → D → Res D
  | x, .int k => do guard (decide (k.natAbs < 2 ^ 62) && fitN k.toNat); pure (.list (List.replicate k.toNat x))
  | _, _ => .bad
def pRepT : D → D → Res D
  | x, .int k => do guard (decide (k.natAbs ≤ 1000)); pure (.tuple (List.replicate k.toNat x))
  | _, _ => .bad
def pFdiv : D → D → Res D
  | .int a, .int b => do guard (divOk b); pure (.int (if 0 < b then a / b else a.fdiv b))
  | _, _ => .bad
def pMod : D → D → Res D
  | .int a, .int b => do guard (decide (b ≠ 0)); pure (.int (if 0 < b then a % b else a.fmod b))
  | _, _ => .bad
def pPow : D → D → Res D
  | .int a, .int b => do guard (decide (0 ≤ b) && decide (b ≤ 1000000) && decide (a.natAbs < 2 ^ 64)); pure (.int (a ^ b.toNat))
  | _, _ => .bad
def pShl : D → D → Res D
  | .int a, .int b => do guard (decide (0 ≤ b) && decide (b ≤ 1000000) && decide (a.natAbs < 2 ^ 64)); pure (.int (a * 2 ^ b.toNat))
  | _, _ => .bad
def pShr : D → D → Res D
  | .int a, .int b => do guard (decide (0 ≤ b)); pure (.int (a / 2 ^ b.toNat))
  | _, _ => .bad
def pAnd : D → D → Res D
  | .int a, .int b => .ok (.int (Builtin.bitAnd a b))
  | _, _ => .bad
def pNeg : D → Res D
  | .int a => .ok (.int (-a))
  | _ => .bad

/-- not too deep to be compared -/
def dOk (a b : D) : Bool := decide (min a.depth b.depth ≤ 100)
def eqD (a b : D) : Res Bool := do guard (dOk a b); pure (PyData.eqv a b)
def isNn : D → Bool
  | .none => true
  | _ => false
def ltD : D → D → Res Bool
  | .int a, .int b => .ok (decide (a < b))
  | a, b => do guard (PySem.W.alike a b && !isNn a && dOk a b); pure (PySem.W.dataLt a b)
def leD : D → D → Res Bool
  | .int a, .int b => .ok (decide (a ≤ b))
  | a, b => do guard (PySem.W.alike a b && !isNn a && dOk a b); pure (!PySem.W.dataLt b a)
def inOk (ys : List D) (x : D) : Bool := decide (min (PyData.depthAll ys) x.depth ≤ 100)
def inD : D → D → Res Bool
  | x, .list ys => do guard (inOk ys x); pure (ys.any fun y => PyData.eqv y x)
  | x, .tuple ys => do guard (inOk ys x); pure (ys.any fun y => PyData.eqv y x)
  | .str a, .str b => .ok (!(Builtin.Str.occurrences b a 0 b.length 1).isEmpty)
  | _, _ => .bad

def truD : D → Res Bool
  | .none => .ok false
  | .bool b => .ok b
  | .int i => .ok (i != 0)
  | .str x => do guard (fitN x.length); pure ((x.length : Int) != 0)
  | .list xs => .ok (!xs.isEmpty)
  | .tuple xs => .ok (!xs.isEmpty)
  | _ => .bad

def pIdx : D → D → Res D
  | .list xs, .int i => ofO ((ixOf xs.length i).bind fun j => xs[j]?)
  | .tuple xs, .int i => ofO ((ixOf xs.length i).bind fun j => xs[j]?)
  | .str x, .int i => do guard (fitN x.length); let c ← ofO ((ixOf x.cps.toList.length i).bind fun j => x.cps.toList[j]?); pure (.str ⟨#[c]⟩)
  | _, _ => .bad
def loOf (n : Nat) : Option Int → Nat
  | none => 0
  | some i => cutAt n i
def hiOf (n : Nat) : Option Int → Nat
  | none => n
  | some i => cutAt n i
def pCut (x : D) (lo hi : Option Int) : Res D := match x with
  | .list xs => .ok (.list (cutL xs (loOf xs.length lo) (hiOf xs.length hi)))
  | .tuple xs => .ok (.tuple (cutL xs (loOf xs.length lo) (hiOf xs.length hi)))
  | _ => .bad
def pRev : D → Res D
  | .list xs => .ok (.list xs.reverse)
  | .tuple xs => .ok (.tuple xs.reverse)
  | _ => .bad

def pLen : D → Res D
  | .list xs => .ok (.int xs.length)
  | .tuple xs => .ok (.int xs.length)
  | .str x => do guard (fitN x.length); pure (.int x.length)
  | _ => .bad
def showOk (d : D) : Bool := d.showable && decide (d.depth ≤ 100) && fitN d.shown.length
def pRepr (d : D) : Res D := do guard (showOk d); pure (.str d.shown)
def maxI : List Int → Res Int
  | [] => .bad
  | x :: xs => .ok (xs.foldl max x)
def minI : List Int → Res Int
  | [] => .bad
  | x :: xs => .ok (xs.foldl min x)
def pMax : List D → Res D
  | [.int a, .int b] => .ok (.int (if b > a then b else a))
  | [x] => do let xs ← seqOf x; let ns ← intsOf xs; let m ← maxI ns; pure (.int m)
  | _ => .bad
def pMin : List D → Res D
  | [.int a, .int b] => .ok (.int (if b < a then b else a))
  | [.int a, .int b, .int c] => .ok (.int (if c < (if b < a then b else a) then c else (if b < a then b else a)))
  | [x] => do let xs ← seqOf x; let ns ← intsOf xs; let m ← minI ns; pure (.int m)
  | _ => .bad
def pSum (x : D) : Res D := do let xs ← seqOf x; let ns ← intsOf xs; pure (.int ns.sum)
def pAll : D → Res D
  | .list xs => do let bs ← boolsOf xs; pure (.bool (bs.all id))
  | _ => .bad
def pAny : D → Res D
  | .list xs => do let bs ← boolsOf xs; pure (.bool (bs.any id))
  | _ => .bad
def pInt : D → Res D
  | .int i => .ok (.int i)
  | .bool b => .ok (.int (if b then 1 else 0))
  | .str x => do guard (decide (x.length ≤ 640)); let n ← ofO (PySem.intText? x); pure (.int n)
  | _ => .bad
def pAbs : D → Res D
  | .int i => .ok (.int (if i < 0 then -i else i))
  | _ => .bad
def isTup1 : D → Bool
  | .tuple (_ :: _) => true
  | _ => false
def notTN : D → Bool
  | .tuple _ => false
  | .none => false
  | _ => true
/-- things that can be put in order -/
def sortOk (ds : List D) : Bool := (ds.all fun a => ds.all fun b => PySem.W.alike a b) && (ds.all isTup1 || ds.all notTN) && decide (PyData.depthAll ds ≤ 100) && fitN ds.length
def leB (a b : D) : Bool := !PySem.W.dataLt b a
def pSorted (d : D) : Res D := do let xs ← seqOf d; guard (sortOk xs); pure (.list (xs.mergeSort leB))
def pCnt (d y : D) : Res D := do let xs ← seqOf d; guard (inOk xs y); pure (.int ((xs.countP fun z => PyData.eqv z y : Nat) : Int))
def pNdx (d y : D) : Res D := do let xs ← seqOf d; guard (inOk xs y && fitN xs.length); let j ← ofO (xs.findIdx? fun z => PyData.eqv z y); pure (.int (j : Int))
/-! ### dicts: a head that tells the kind of the keys (false: whole numbers and texts; true: tuples of whole numbers, None and such tuples), then the pairs -/
abbrev dKD (kvs : List (D × D)) : D := .dict ((.bool false, .none) :: kvs)
abbrev dTD (kvs : List (D × D)) : D := .dict ((.bool true, .none) :: kvs)
mutual
def nkOf : D → Option NestedKey
  | .none => some .none
  | .int i => some (.num i)
  | .tuple xs => (nksOf xs).map .tup
  | _ => none
  termination_by structural d => d
def nksOf : List D → Option (List NestedKey)
  | [] => some []
  | x :: xs => match nkOf x, nksOf xs with
    | some k, some ks => some (k :: ks)
    | _, _ => none
  termination_by structural xs => xs
end
/-- good as a key of the kind t -/
def keyOk : Bool → D → Bool
  | false, .int _ => true
  | false, .str _ => true
  | true, .tuple xs => (nkOf (.tuple xs)).isSome && decide (PyData.depth (.tuple xs) ≤ 7)
  | _, _ => false
def dFind (kvs : List (D × D)) (k : D) : Option D := (kvs.find? fun p => PyData.eqv p.1 k).map (·.2)
def dPut (kvs : List (D × D)) (k v : D) : List (D × D) := if (kvs.any fun p => PyData.eqv p.1 k) = true then kvs.map (fun p => if PyData.eqv p.1 k = true then (p.1, v) else p) else kvs ++ [(k, v)]
def dictOf : D → Res (Bool × List (D × D))
  | .dict ((.bool t, _) :: kvs) => .ok (t, kvs)
  | _ => .bad
/-- pairs out of a list of tuples of two -/
def pairsOf (t : Bool) : List D → Res (List (D × D))
  | [] => .ok []
  | .tuple [k, v] :: r => do guard (keyOk t k); let l ← pairsOf t r; pure ((k, v) :: l)
  | _ => .bad
def dPuts (kvs more : List (D × D)) : List (D × D) := more.foldl (fun acc p => dPut acc p.1 p.2) kvs
/-! ### sets, put in order or counted; texts -/
/-- pairs of whole numbers from 0 on -/
def prsOf : List D → Res (List (Int × Int))
  | [] => .ok []
  | .tuple [.int a, .int b] :: r => do
    guard (decide (0 ≤ a) && decide (0 ≤ b))
    let l ← prsOf r
    pure ((a, b) :: l)
  | _ :: _ => .bad
def encP (k : Int × Int) : D := .tuple [.int k.1, .int k.2]
def nub {α : Type} [DecidableEq α] : List α → List α
  | [] => []
  | x :: xs => if x ∈ xs then nub xs else x :: nub xs
def isI : D → Bool
  | .int _ => true
  | _ => false
def isTu : D → Bool
  | .tuple _ => true
  | _ => false
/-- sorted(set(x)): pairs of a list or tuple, or whole numbers of a tuple -/
def pSortSet (d : D) : Res D := do
  let xs ← seqOf d
  guard (decide (xs.length < 64))
  if xs.any isI = true then do
    guard (isTu d)
    let ns ← intsOf xs
    pure (.list (((nub ns).mergeSort fun a b => decide (a ≤ b)).map PyData.int))
  else do
    let ks ← prsOf xs
    pure (.list (((nub ks).map encP).mergeSort leB))
/-- len(set(x)), whole numbers -/
def pLenSet (d : D) : Res D := do
  let xs ← seqOf d
  let ns ← intsOf xs
  guard (decide (ns.length ≤ 1000))
  pure (.int ((nub ns).length : Nat))
def strsOf : List D → Res (List Str)
  | [] => .ok []
  | .str x :: r => do let l ← strsOf r; pure (x :: l)
  | _ :: _ => .bad
def pJoin (sep : Str) (d : D) : Res D := do
  let xs ← seqOf d
  let ys ← strsOf xs
  guard (decide ((ys.map (·.length)).sum + ys.length * sep.length ≤ 16777216))
  pure (.str (Txt.join sep ys))
def pSplit (sep : Str) : D → Res D
  | .str a => do guard (!(sep.length == 0) && decide (a.length + 2 ≤ sizeLine)); pure (.list ((Txt.split a sep).map PyData.str))
  | _ => .bad
def pStr : D → Res D
  | .int n => do guard (decide (n.natAbs.log2 < 1920)); pure (.str (toString n))
  | _ => .bad
inductive Kd where
  | int | bool | str | tuple | list
  deriving DecidableEq
def isK : Kd → D → Bool
  | .int, .int _ => true
  | .int, .bool _ => true
  | .bool, .bool _ => true
  | .str, .str _ => true
  | .tuple, .tuple _ => true
  | .list, .list _ => true
  | _, _ => false

inductive Pr where
  | add | sub | mul | fdiv | mod | pow | shl | shr | band | neg
  | eq | ne | lt | le | gt | ge | isN | notN | isin | notin
  | idx | rev
  | len | tuple | repr | max | min | sum | all | any | int | abs
  | isinst (k : Kd)
  | list
  | sorted
  | cnt | ndx
  | isB (b : Bool) | notB (b : Bool)
  | sortset | lenset
  | join (sep : Str) | split (sep : Str) | str
  deriving DecidableEq

def prim : Pr → List D → Res D
  | .add, [a, b] => pAdd a b
  | .sub, [a, b] => pSub a b
  | .mul, [a, b] => pMul a b
  | .fdiv, [a, b] => pFdiv a b
  | .mod, [a, b] => pMod a b
  | .pow, [a, b] => pPow a b
  | .shl, [a, b] => pShl a b
  | .shr, [a, b] => pShr a b
  | .band, [a, b] => pAnd a b
  | .neg, [a] => pNeg a
  | .eq, [a, b] => do let r ← eqD a b; pure (.bool r)
  | .ne, [a, b] => do let r ← eqD a b; pure (.bool (!r))
  | .lt, [a, b] => do let r ← ltD a b; pure (.bool r)
  | .le, [a, b] => do let r ← leD a b; pure (.bool r)
  | .gt, [a, b] => do let r ← ltD b a; pure (.bool r)
  | .ge, [a, b] => do let r ← leD b a; pure (.bool r)
  | .isN, [a] => .ok (.bool (match a with | .none => true | _ => false))
  | .notN, [a] => .ok (.bool (match a with | .none => false | _ => true))
  | .isin, [a, b] => do let r ← inD a b; pure (.bool r)
  | .notin, [a, b] => do let r ← inD a b; pure (.bool (!r))
  | .idx, [a, b] => pIdx a b
  | .rev, [a] => pRev a
  | .len, [a] => pLen a
  | .tuple, [a] => do let xs ← seqOf a; pure (.tuple xs)
  | .repr, [a] => pRepr a
  | .max, as => pMax as
  | .min, as => pMin as
  | .sum, [a] => pSum a
  | .all, [a] => pAll a
  | .any, [a] => pAny a
  | .int, [a] => pInt a
  | .abs, [a] => pAbs a
  | .isinst k, [a] => .ok (.bool (isK k a))
  | .list, [a] => do let xs ← seqOf a; pure (.list xs)
  | .sorted, [a] => pSorted a
  | .cnt, [a, b] => pCnt a b
  | .ndx, [a, b] => pNdx a b
  | .isB b, [a] => match a with
    | .bool x => .ok (.bool (decide (x = b)))
    | _ => .bad
  | .notB b, [a] => match a with
    | .bool x => .ok (.bool (!decide (x = b)))
    | _ => .bad
  | .sortset, [a] => pSortSet a
  | .lenset, [a] => pLenSet a
  | .join s, [a] => pJoin s a
  | .split s, [a] => pSplit s a
  | .str, [a] => pStr a
  | _, _ => .bad

/-! ### what a loop walks -/
inductive IK where
  | seq | rng | enum | zip | rev | txt
  deriving DecidableEq
def rngOk (i : Int) : Bool := decide (-(2 ^ 62) ≤ i) && decide (i < 2 ^ 62)
def upFrom (lo : Int) : Nat → List D
  | 0 => []
  | n + 1 => .int lo :: upFrom (lo + 1) n
def downFrom (lo : Int) : Nat → List D
  | 0 => []
  | n + 1 => .int lo :: downFrom (lo - 1) n
def enumFrom (k : Int) : List D → List D
  | [] => []
  | x :: xs => .tuple [.int k, x] :: enumFrom (k + 1) xs
def zipD : List D → List D → List D
  | x :: xs, y :: ys => .tuple [x, y] :: zipD xs ys
  | _, _ => []
def iterF : IK → List D → Res (List D)
  | .seq, [a] => seqOf a
  | .rng, [.int n] => do guard (rngOk n); pure (upFrom 0 n.toNat)
  | .rng, [.int a, .int b] => do guard (rngOk a && rngOk b); pure (upFrom a (b - a).toNat)
  | .rng, [.int a, .int b, .int c] => do guard (decide (c = -1) && rngOk a && rngOk b); pure (downFrom a (a - b).toNat)
  | .enum, [a] => do let xs ← seqOf a; pure (enumFrom 0 xs)
  | .zip, [.list xs, .list ys] => .ok (zipD xs ys)
  | .zip, [.tuple xs, .tuple ys] => .ok (zipD xs ys)
  | .rev, [a] => do let xs ← seqOf a; pure xs.reverse
  | .txt, [.str x] => .ok (x.cps.toList.map fun c => .str ⟨#[c]⟩)
  | _, _ => .bad

/-! ### what is told by a def of its own: for each place the places that it is tied to -/
def addD (rows : List D) (i : Int) (x : D) : Option (List D) := if 0 ≤ i then (match rows[i.toNat]? with
  | some (.list r) => if r.length < 1000 then some (rows.set i.toNat (.list (r ++ [x]))) else none
  | _ => none) else none
def tieD (rows : List D) : D → Option (List D)
  | .tuple [.int i, .int j] => (addD rows i (.int j)).bind fun r => addD r j (.int i)
  | _ => none
def tiesL : List D → List D → Res (List D)
  | rows, [] => .ok rows
  | rows, t :: ts => match tieD rows t with
    | some r => tiesL r ts
    | none => .bad
def tiesD : D → Res D
  | .tuple [.int n, .tuple ts] => if 0 ≤ n ∧ n ≤ 1000 then (tiesL (List.replicate n.toNat (.list [])) ts >>= fun r => .ok (.list r)) else .bad
  | _ => .bad
def natD : Nat → D → Res D
  | 0, w => tiesD w
  | _, _ => .bad

/-! ### the language -/
inductive Tg where
  | nm (i : Nat)
  | tp (is : List Nat)
  deriving DecidableEq
def Tg.slots : Tg → List Nat
  | .nm i => [i]
  | .tp is => is

inductive IE where
  | c (d : D)
  | v (i : Nat)
  | o (i : Nat)
  | p (op : Pr) (as : List IE)
  | call (f : Nat) (as : List IE) (outs : List Nat)
  | and (a b : IE)
  | or (a b : IE)
  | not (a : IE)
  | ifx (t a b : IE)
  | chain (o1 o2 : Pr) (a b c : IE)
  | chain3 (o1 o2 o3 : Pr) (a b c d : IE)
  | comp (k : IK) (as : List IE) (tg : Tg) (cs : List IE) (e : IE)
  | pop (i : Nat) (as : List IE)
  | disp (t : Bool) (as : List IE)
  | rep (t : Bool) (x k : IE)
  | mth (op : Pr) (x e : IE)
  | mv (i : Nat)
  | cut (x lo hi : List IE)
  | od (i : Nat)
  | dget (i : Nat) (k : IE)
  | din (neg : Bool) (k : IE) (i : Nat)
  | callD (f : Nat) (as : List IE) (t : Bool)
  | rg (t : Bool) (as : List IE)

inductive IS where
  | set (tg : Tg) (e : IE)
  | par (i j : Nat) (a b : IE)
  | sub (i : Nat) (k e : IE)
  | app (i : Nat) (e : IE)
  | ext (i : Nat) (e : IE)
  | ex (e : IE)
  | ite (c : IE) (t e : List IS)
  | whl (c : IE) (b : List IS)
  | for_ (k : IK) (as : List IE) (tg : Tg) (b : List IS)
  | ret (e : IE)
  | pass
  | never
  | dnew (i : Nat) (t : Bool)
  | dof (i : Nat) (t : Bool) (e : IE)
  | dput (i : Nat) (k e : IE)
  | nat (k : Nat)

inductive OV where
  | val (d : D)
  | sl (i : Nat)

def look (ε : MEnv) (i : Nat) : Res D := match ε[i]? with
  | some (some d) => .ok d
  | _ => .bad
def resolve1 (ε : MEnv) : OV → Res D
  | .val d => .ok d
  | .sl i => look ε i
def resolve (ε : MEnv) : List OV → Res (List D)
  | [] => .ok []
  | o :: r => do let d ← resolve1 ε o; let ds ← resolve ε r; pure (d :: ds)
def setAll (ε : MEnv) : List Nat → List D → MEnv
  | i :: is, d :: ds => setAll (ε.set i (some d)) is ds
  | _, _ => ε
def setTg (tg : Tg) (x : D) (ε : MEnv) : Res MEnv := match tg with
  | .nm i => .ok (ε.set i (some x))
  | .tp is => match x with
    | .tuple xs => if xs.length = is.length then .ok (setAll ε is xs) else .bad
    | .list xs => if xs.length = is.length then .ok (setAll ε is xs) else .bad
    | _ => .bad
def wipeE (ε : MEnv) : List Nat → MEnv
  | [] => ε
  | i :: is => (wipeE ε is).set i none
/-- the slots is of ε as they are in ε₀ -/
def backE (ε₀ ε : MEnv) : List Nat → MEnv
  | [] => ε
  | i :: is => (backE ε₀ ε is).set i (ε₀[i]?.getD none)

abbrev Cl := Nat → List D → Res (D × List D)

def compM (f : D → MEnv → Res (Option D × MEnv)) : List D → MEnv → Res (List D × MEnv)
  | [], ε => .ok ([], ε)
  | x :: xs, ε => do
    let (o, ε1) ← f x ε
    let (ys, ε2) ← compM f xs ε1
    pure (o.toList ++ ys, ε2)

def popD (xs : List D) : List D → Res (D × List D)
  | [] => do let y ← ofO xs[xs.length - 1]?; pure (y, xs.dropLast)
  | [.int i] => do
    guard (decide (i.natAbs < 2 ^ 62))
    let j ← ofO (ixOf xs.length i)
    let y ← ofO xs[j]?
    pure (y, xs.eraseIdx j)
  | _ => .bad
def listOf : D → Res (List D)
  | .list xs => .ok xs
  | _ => .bad

def isLd : D → Bool
  | .list _ => true
  | .dict _ => true
  | _ => false
def isDd : D → Bool
  | .dict _ => true
  | _ => false
def isLa (ε : MEnv) (i : Nat) : Bool := match ε[i]? with
  | some (some d) => isLd d
  | _ => false
/-- a value as it is, or (in a test) its truth -/
def fin (tm : Bool) (d : D) (ε : MEnv) : Res (D × MEnv) := if tm = true then do let k ← truD d; pure (.bool k, ε) else pure (d, ε)

mutual
/-- tm: within a test (the value is then its truth) -/
def ev (cl : Cl) : Bool → IE → MEnv → Res (D × MEnv)
  | tm, .c d, ε => fin tm d ε
  | tm, .v i, ε => do let d ← look ε i; fin tm d ε
  | tm, .o i, ε => if tm = true then do let d ← look ε i; fin tm d ε else .bad
  | tm, .p op as, ε => do
    let (os, ε1) ← evA cl as ε
    let ds ← resolve ε1 os
    let r ← prim op ds
    fin tm r ε1
  | tm, .call f as outs, ε => do
    let (os, ε1) ← evA cl as ε
    let ds ← resolve ε1 os
    guard (outs.all fun i => isLa ε1 i)
    let (r, ws) ← cl f ds
    guard (decide (ws.length = outs.length) && ws.all isLd)
    fin tm r (setAll ε1 outs ws)
  | tm, .callD f as t, ε => do
    let (os, ε1) ← evA cl as ε
    let ds ← resolve ε1 os
    let (r, ws) ← cl f (ds ++ [if t = true then dTD [] else dKD []])
    guard (decide (ws.length = 1) && ws.all isLd)
    fin tm r ε1
  | tm, .rg t as, ε => do
    let (os, ε1) ← evA cl as ε
    let ds ← resolve ε1 os
    let xs ← iterF .rng ds
    guard (decide (ds.length ≤ 2) && fitN xs.length)
    fin tm (if t = true then .tuple xs else .list xs) ε1
  | tm, .and a b, ε => do
    let (x, ε1) ← ev cl tm a ε
    let k ← truD x
    if k = true then ev cl tm b ε1 else pure (x, ε1)
  | tm, .or a b, ε => do
    let (x, ε1) ← ev cl tm a ε
    let k ← truD x
    if k = true then pure (x, ε1) else ev cl tm b ε1
  | tm, .not a, ε => do
    let (x, ε1) ← ev cl tm a ε
    let k ← boolOf x
    pure (.bool (!k), ε1)
  | tm, .ifx t a b, ε => do
    let (x, ε1) ← ev cl true t ε
    let k ← boolOf x
    let (r, ε2) ← (if k = true then ev cl false a ε1 else ev cl false b ε1)
    fin tm r ε2
  | tm, .chain o1 o2 a b c, ε => do
    let (x, ε1) ← ev cl false a ε
    let (y, ε2) ← ev cl false b ε1
    let z ← prim o1 [x, y]
    let k ← boolOf z
    if k = true then do
      let (u, ε3) ← ev cl false c ε2
      let r ← prim o2 [y, u]
      let k2 ← boolOf r
      pure (.bool k2, ε3)
    else pure (.bool false, ε2)
  | tm, .chain3 o1 o2 o3 a b c d, ε => do
    let (x, ε1) ← ev cl false a ε
    let (y, ε2) ← ev cl false b ε1
    let z ← prim o1 [x, y]
    let k ← boolOf z
    if k = true then do
      let (u, ε3) ← ev cl false c ε2
      let r ← prim o2 [y, u]
      let k2 ← boolOf r
      if k2 = true then do
        let (w, ε4) ← ev cl false d ε3
        let r3 ← prim o3 [u, w]
        let k3 ← boolOf r3
        pure (.bool k3, ε4)
      else pure (.bool false, ε3)
    else pure (.bool false, ε2)
  | tm, .comp k as tg cs e, ε => do
    let (os, ε1) ← evA cl as ε
    let ds ← resolve ε1 os
    let items ← iterF k ds
    let (ys, ε2) ← compM (fun x ε => do
      let ε3 ← setTg tg x (wipeE ε tg.slots)
      let (b, ε4) ← evTs cl cs ε3
      if b = true then do
        let (y, ε5) ← ev cl false e ε4
        pure (some y, ε5)
      else pure (none, ε4)) items ε1
    guard (fitN ys.length)
    fin tm (.list ys) (backE ε1 ε2 tg.slots)
  | tm, .pop i as, ε => do
    let y0 ← look ε i
    let _ ← listOf y0
    let (os, ε1) ← evA cl as ε
    let ds ← resolve ε1 os
    let x ← look ε1 i
    let xs ← listOf x
    let (y, xs') ← popD xs ds
    fin tm y (ε1.set i (some (.list xs')))
  | tm, .disp t as, ε => do
    let (os, ε1) ← evA cl as ε
    let ds ← resolve ε1 os
    guard (fitN ds.length)
    fin tm (if t = true then .tuple ds else .list ds) ε1
  | tm, .rep t x k, ε => do
    let (d, ε1) ← ev cl false x ε
    let (n, ε2) ← ev cl false k ε1
    let r ← (if t = true then pRepT d n else pRepL d n)
    fin tm r ε2
  | tm, .mth op x e, ε => do
    let (d, ε1) ← ev cl false x ε
    let _ ← listOf d
    let (y, ε2) ← ev cl false e ε1
    let r ← prim op [d, y]
    fin tm r ε2
  | tm, .mv i, ε => do let d ← look ε i; fin tm d (ε.set i none)
  | tm, .cut x lo hi, ε => do
    let (os, ε1) ← evA cl x ε
    let (l, ε2) ← evP cl lo ε1
    let (h, ε3) ← evP cl hi ε2
    let ds ← resolve ε3 os
    match ds with
    | [d] => do
      let r ← pCut d l h
      fin tm r ε3
    | _ => .bad
  | tm, .od i, ε => .bad
  | tm, .dget i k, ε => do
    let y0 ← look ε i
    let (d, ε1) ← ev cl false k ε
    let y ← look ε1 i
    let (t, kvs) ← dictOf y
    guard (keyOk t d)
    let v ← ofO (dFind kvs d)
    fin tm v ε1
  | tm, .din neg k i, ε => do
    let (d, ε1) ← ev cl false k ε
    let y ← look ε1 i
    let (t, kvs) ← dictOf y
    guard (keyOk t d)
    pure (.bool (neg != (dFind kvs d).isSome), ε1)
  termination_by structural _ e => e
def evA (cl : Cl) : List IE → MEnv → Res (List OV × MEnv)
  | [], ε => .ok ([], ε)
  | .o i :: es, ε => do
    let _ ← look ε i
    let (os, ε2) ← evA cl es ε
    pure (.sl i :: os, ε2)
  | .od i :: es, ε => do
    let _ ← look ε i
    let (os, ε2) ← evA cl es ε
    pure (.sl i :: os, ε2)
  | e :: es, ε => do
    let (d, ε1) ← ev cl false e ε
    let (os, ε2) ← evA cl es ε1
    pure (.val d :: os, ε2)
  termination_by structural es => es
/-- an end of a slice: left out, or a number -/
def evP (cl : Cl) : List IE → MEnv → Res (Option Int × MEnv)
  | [], ε => .ok (none, ε)
  | e :: es, ε => do
    let (d, ε1) ← ev cl false e ε
    let i ← intOf d
    if es.isEmpty = true then pure (some i, ε1) else .bad
  termination_by structural es => es
def evTs (cl : Cl) : List IE → MEnv → Res (Bool × MEnv)
  | [], ε => .ok (true, ε)
  | c :: cs, ε => do
    let (x, ε1) ← ev cl true c ε
    let k ← boolOf x
    if k = true then evTs cl cs ε1 else pure (false, ε1)
  termination_by structural es => es
end
abbrev evE (cl : Cl) (e : IE) (ε : MEnv) : Res (D × MEnv) := ev cl false e ε
inductive Flow where
  | nx (ε : MEnv)
  | rt (d : D) (ε : MEnv)

def whileM (c : MEnv → Res (D × MEnv)) (b : MEnv → Res Flow) : Nat → MEnv → Res Flow
  | 0, _ => .bad
  | n + 1, ε => do
    let (x, ε1) ← c ε
    let k ← boolOf x
    if k = true then do
      match ← b ε1 with
      | .nx ε2 => whileM c b n ε2
      | .rt d ε2 => pure (.rt d ε2)
    else pure (.nx ε1)
def forM (f : D → MEnv → Res Flow) : List D → MEnv → Res Flow
  | [], ε => .ok (.nx ε)
  | x :: xs, ε => do
    match ← f x ε with
    | .nx ε1 => forM f xs ε1
    | .rt d ε1 => pure (.rt d ε1)

mutual
def evS (cl : Cl) (N : Nat) : IS → MEnv → Res Flow
  | .set tg e, ε => do
    let (d, ε1) ← evE cl e ε
    let ε2 ← setTg tg d ε1
    pure (.nx ε2)
  | .par i j a b, ε => do
    let (x, ε1) ← evE cl a ε
    let (y, ε2) ← evE cl b ε1
    pure (.nx ((ε2.set i (some x)).set j (some y)))
  | .sub i k e, ε => do
    let (d, ε1) ← evE cl e ε
    let _ ← look ε1 i
    let (x, ε2) ← evE cl k ε1
    let n ← intOf x
    let y ← look ε2 i
    let xs ← listOf y
    let j ← ofO (ixOf xs.length n)
    pure (.nx (ε2.set i (some (.list (xs.set j d)))))
  | .app i e, ε => do
    let y0 ← look ε i
    let _ ← listOf y0
    let (d, ε1) ← evE cl e ε
    let y ← look ε1 i
    let xs ← listOf y
    guard (decide (xs.length < sizeLine))
    pure (.nx (ε1.set i (some (.list (xs ++ [d])))))
  | .ext i e, ε => do
    let y0 ← look ε i
    let _ ← listOf y0
    let (d, ε1) ← evE cl e ε
    let ys ← listOf d
    let y ← look ε1 i
    let xs ← listOf y
    guard (fitN (xs.length + ys.length))
    pure (.nx (ε1.set i (some (.list (xs ++ ys)))))
  | .ex e, ε => do
    let (_, ε1) ← evE cl e ε
    pure (.nx ε1)
  | .ite c t e, ε => do
    let (x, ε1) ← ev cl true c ε
    let k ← boolOf x
    if k = true then evB cl N t ε1 else evB cl N e ε1
  | .whl c b, ε => whileM (ev cl true c) (evB cl N b) N ε
  | .for_ k as tg b, ε => do
    let (os, ε1) ← evA cl as ε
    let ds ← resolve ε1 os
    let items ← iterF k ds
    forM (fun x ε => do
      let ε2 ← setTg tg x ε
      evB cl N b ε2) items ε1
  | .ret e, ε => do
    let (d, ε1) ← evE cl e ε
    pure (.rt d ε1)
  | .pass, ε => .ok (.nx ε)
  | .never, _ => .bad
  | .dnew i t, ε => .ok (.nx (ε.set i (some (if t = true then dTD [] else dKD []))))
  | .dof i t e, ε => do
    let (d, ε1) ← evE cl e ε
    let xs ← listOf d
    let ps ← pairsOf t xs
    pure (.nx (ε1.set i (some (if t = true then dTD (dPuts [] ps) else dKD (dPuts [] ps)))))
  | .dput i k e, ε => do
    let (d, ε1) ← evE cl e ε
    let _ ← look ε1 i
    let (x, ε2) ← evE cl k ε1
    let y ← look ε2 i
    let (t, kvs) ← dictOf y
    guard (keyOk t x && decide (kvs.length < sizeLine))
    pure (.nx (ε2.set i (some (if t = true then dTD (dPut kvs x d) else dKD (dPut kvs x d)))))
  | .nat k, ε => do
    let w ← look ε 0
    let d ← natD k w
    pure (.rt d ε)
  termination_by structural s => s
def evB (cl : Cl) (N : Nat) : List IS → MEnv → Res Flow
  | [], ε => .ok (.nx ε)
  | s :: r, ε => do
    match ← evS cl N s ε with
    | .nx ε1 => evB cl N r ε1
    | .rt d ε1 => pure (.rt d ε1)
  termination_by structural s => s
end

structure FDef where
  np : Nat
  ns : Nat
  muts : List Nat
  body : List IS

def lookAll (ε : MEnv) : List Nat → Res (List D)
  | [] => .ok []
  | i :: is => do let d ← look ε i; let ds ← lookAll ε is; pure (d :: ds)
def runF (cl : Cl) (N : Nat) (fd : FDef) (ds : List D) : Res (D × List D) := do
  guard (decide (ds.length = fd.np))
  match ← evB cl N fd.body (ds.map some ++ List.replicate (fd.ns - fd.np) none) with
  | .rt d ε => do let ws ← lookAll ε fd.muts; pure (d, ws)
  | .nx ε => do let ws ← lookAll ε fd.muts; pure (.none, ws)
def callF (T : List FDef) (N : Nat) : Nat → Cl
  | 0, _, _ => .bad
  | n + 1, f, ds => match T[f]? with
    | some fd => runF (callF T N n) N fd ds
    | none => .bad
end Mir
/-! Mir, part DT: dicts whose keys are tuples of whole numbers, None and such tuples; the rules of d[k], k in d, d[k] = v, {} for them and for those of HandS at once. -/
namespace Mir
open PySem PySem.Spec L2

mutual
/-- without texts -/
def noTx : NestedKey → Bool
  | .none => true
  | .num _ => true
  | .text _ => false
  | .tup ks => noTxs ks
def noTxs : List NestedKey → Bool
  | [] => true
  | k :: ks => noTx k && noTxs ks
end
mutual
/-- the hash of a key without texts: no world in it -/
def hashN : NestedKey → Int
  | .none => reduceHash 0xFCA86420
  | .num i => hashInt i
  | .text _ => 0
  | .tup ks => reduceHash (Builtin.Tuple.tupleHashOf (hashNs ks))
def hashNs : List NestedKey → List Int
  | [] => []
  | k :: ks => hashN k :: hashNs ks
end
mutual
theorem hashN_is (w : World) : ∀ k : NestedKey, noTx k = true → k.hash w = hashN k
  | .none, _ => by rw [NestedKey.hash, hashN]
  | .num i, _ => by rw [NestedKey.hash, hashN]
  | .text x, h => by rw [noTx] at h; cases h
  | .tup ks, h => by
    rw [noTx] at h
    rw [NestedKey.hash, hashN, hashNs_is w ks h]
theorem hashNs_is (w : World) : ∀ ks : List NestedKey, noTxs ks = true → NestedKey.hashes w ks = hashNs ks
  | [], _ => by rw [NestedKey.hashes, hashNs]
  | k :: ks, h => by
    rw [noTxs, Bool.and_eq_true] at h
    rw [NestedKey.hashes, hashNs, hashN_is w k h.1, hashNs_is w ks h.2]
end

abbrev TE3 := List (NestedKey × Addr × V)
def TPair (x : NestedKey × Addr × V) (y : NestedKey × Addr × Value) : Prop := x.1 = y.1 ∧ x.2.1 = y.2.1 ∧ RelV x.2.2 y.2.2
def entN (y : NestedKey × Addr × Value) : DictEntry := ⟨hashN y.1, .ref y.2.1, y.2.2⟩
/-- good as keys -/
def KeyOkN (k : NestedKey) : Prop := noTx k = true ∧ k.depth ≤ 8
/-- the dict's object at a, by its entries -/
def TRaw (a : Addr) (xs : TE3) : Heap → Prop := fun h => xs.length ≤ sizeLine ∧ (a == sysModules) = false ∧ (∀ x ∈ xs, KeyOkN x.1) ∧
  ∃ ys : List (NestedKey × Addr × Value), Paired TPair xs ys ∧ ∃ o es ep, h.get? a = some o ∧ o.ExactDict ∧ o.data = .dict es ep ∧ es.toList = ys.map entN ∧ (ys.map (·.1)).Nodup
theorem tRaw_stay {a : Addr} {xs : TE3} : ∀ h1 h2 : Heap, TRaw a xs h1 → (∀ o, h1.get? a = some o → h2.get? a = some o) → TRaw a xs h2 := by
  rintro h1 h2 ⟨z, n, k, ys, p, o, es, ep, e, c⟩ st
  exact ⟨z, n, k, ys, p, o, es, ep, st o e, c⟩
theorem tRaw_has {a : Addr} {xs : TE3} {h : Heap} (x : TRaw a xs h) : ∃ o, h.get? a = some o := by
  obtain ⟨z, n, k, ys, p, o, es, ep, e, c⟩ := x
  exact ⟨o, e⟩
theorem tRaw_ok {P : Program} {w : World} {H : Hp} {h : Heap} {a : Addr} {xs : TE3} (x : TRaw a xs h) : ObjOk P w H h a (.ext (TRaw a xs)) := ⟨x, tRaw_has x, tRaw_stay⟩
abbrev HT (a : Addr) (xs : TE3) : HO := .ext (TRaw a xs)

section
variable {X : Cx} {pins : List (Addr × Obj)} {σ : St} {H : Hp} {s : Shared}
mutual
theorem nk_is (I : Inv X pins σ H s) : ∀ (k : NestedKey) (v : V) (u : Value), noTx k = true → Dp X.K H v k.data → RelV v u → NestedIs s.heap k u
  | .none, v, u, _, h, r => by
    rw [NestedKey.data] at h
    cases h
    cases r
    exact .none
  | .num i, v, u, _, h, r => by
    rw [NestedKey.data] at h
    cases h
    obtain ⟨t, rfl⟩ := r
    exact .int _ _
  | .text x, v, u, n, h, r => by rw [noTx] at n; cases n
  | .tup ks, v, u, n, h, r => by
    rw [NestedKey.data] at h
    rw [noTx] at n
    cases h with
    | tup hs ha =>
      cases r
      obtain ⟨its, rv, ⟨o, ho, hc, m, hd⟩, _⟩ := I.tuple hs
      exact .tup ho hc hd (by simpa using nks_is I ks _ its n ha rv)
theorem nks_is (I : Inv X pins σ H s) : ∀ (ks : List NestedKey) (vs : List V) (us : List Value), noTxs ks = true → DpAll X.K H vs (NestedKey.datas ks) → Vals vs us → NestedAll s.heap ks us
  | [], vs, us, _, h, r => by
    rw [NestedKey.datas] at h
    cases h
    cases r
    exact .nil
  | k :: ks, vs, us, n, h, r => by
    rw [NestedKey.datas] at h
    rw [noTxs, Bool.and_eq_true] at n
    cases h with
    | cons h1 h2 =>
      cases r with
      | cons r1 r2 => exact .cons (nk_is I k _ _ n.1 h1 r1) (nks_is I ks _ _ n.2 h2 r2)
end
theorem key_isN (I : Inv X pins σ H s) {k : NestedKey} {b : Addr} (ok : KeyOkN k) (h : Dp X.K H (.ref b) k.data) : (nestedKind X.prog X.w).is s.heap k b := ⟨nk_is I k _ _ ok.1 h rfl, ok.2⟩
/-- the keys' own tuples stand -/
def KeysIn (K : PySem.W.Frag) (H : Hp) (xs : TE3) : Prop := ∀ x ∈ xs, Dp K H (.ref x.2.1) x.1.data
def findT (xs : TE3) (k : NestedKey) : Option V := (xs.find? fun x => decide (x.1 = k)).map (·.2.2)
def putT (xs : TE3) (k : NestedKey) (b : Addr) (v : V) : TE3 := if (xs.any fun x => decide (x.1 = k)) = true then xs.map (fun x => if x.1 = k then (x.1, x.2.1, v) else x) else xs ++ [(k, b, v)]
theorem findT_rel {xs : TE3} {ys : List (NestedKey × Addr × Value)} (p : Paired TPair xs ys) (k : NestedKey) : RelO (findT xs k) ((atKey ys k).map (·.2)) := by
  induction p with
  | nil => exact True.intro
  | @cons x y xs ys h t ih =>
    obtain ⟨h1, h2, h3⟩ := h
    by_cases e : x.1 = k
    · have e' : y.1 = k := h1.symm.trans e
      have a1 : findT (x :: xs) k = some x.2.2 := by simp [findT, List.find?_cons, e]
      have a2 : atKey (y :: ys) k = some y.2 := by simp [atKey, List.find?_cons, e']
      rw [a1, a2]
      exact h3
    · have e' : ¬ y.1 = k := fun z => e (h1.trans z)
      have a1 : findT (x :: xs) k = findT xs k := by simp [findT, List.find?_cons, e]
      have a2 : atKey (y :: ys) k = atKey ys k := by simp [atKey, List.find?_cons, e']
      rw [a1, a2]
      exact ih
theorem findT_any (xs : TE3) (k : NestedKey) : (xs.any fun x => decide (x.1 = k)) = (findT xs k).isSome := by
  induction xs with
  | nil => rfl
  | cons x xs ih =>
    by_cases e : x.1 = k
    · simp [findT, List.find?_cons, e]
    · rw [List.any_cons, decide_eq_false e, Bool.false_or, ih]
      simp [findT, List.find?_cons, e]
theorem putT_rel {xs : TE3} {ys : List (NestedKey × Addr × Value)} (p : Paired TPair xs ys) (k : NestedKey) (b : Addr) {v : V} {u : Value} (r : RelV v u) : Paired TPair (putT xs k b v) (storedH ys k b u) := by
  have e : (xs.any fun x => decide (x.1 = k)) = (atKey ys k).isSome := by
    rw [findT_any, (findT_rel p k).isSome_eq, Option.isSome_map]
  unfold putT storedH
  rw [e]
  by_cases q : (atKey ys k).isSome = true
  · rw [if_pos q, if_pos q]
    clear e q
    induction p with
    | nil => exact .nil
    | @cons x y xs ys h t ih =>
      rw [List.map_cons, List.map_cons]
      refine .cons ?_ ih
      obtain ⟨h1, h2, h3⟩ := h
      unfold putAt
      by_cases c : x.1 = k
      · rw [if_pos c, if_pos (h1.symm.trans c)]
        exact ⟨h1, h2, r⟩
      · rw [if_neg c, if_neg (fun z => c (h1.trans z))]
        exact ⟨h1, h2, h3⟩
  · rw [if_neg q, if_neg q]
    exact Paired.snoc p ⟨rfl, rfl, r⟩
theorem putT_len (xs : TE3) (k : NestedKey) (b : Addr) (v : V) : (putT xs k b v).length ≤ xs.length + 1 := by
  unfold putT
  split
  · rw [List.length_map]; omega
  · rw [List.length_append, List.length_cons, List.length_nil]; omega
theorem putT_mem {xs : TE3} {k : NestedKey} {b : Addr} {v : V} {x : NestedKey × Addr × V} (h : x ∈ putT xs k b v) : (x.1 = k ∧ x.2.1 = b) ∨ ∃ y ∈ xs, x.1 = y.1 ∧ x.2.1 = y.2.1 := by
  unfold putT at h
  split at h
  · obtain ⟨y, hy, rfl⟩ := List.mem_map.mp h
    refine .inr ⟨y, hy, ?_⟩
    split <;> exact ⟨rfl, rfl⟩
  · rcases List.mem_append.mp h with z | z
    · exact .inr ⟨x, z, rfl, rfl⟩
    · rw [List.mem_singleton.mp z]
      exact .inl ⟨rfl, rfl⟩
/-- the dict as the library tells it -/
theorem dictN_of (I : Inv X pins σ H s) {a : Addr} {xs : TE3} (e : H a = some (HT a xs)) (kn : KeysIn X.K H xs) : xs.length ≤ sizeLine ∧ (a == sysModules) = false ∧ (∀ x ∈ xs, KeyOkN x.1) ∧
    ∃ ys, Paired TPair xs ys ∧ s.heap.DictOfH (nestedKind X.prog X.w) a ys := by
  obtain ⟨⟨z, n, kk, ys, p, o, es, ep, h1, h2, h3, h4, h5⟩, _, _⟩ := (show ObjOk X.prog X.w H s.heap a (HT a xs) from I.hok a _ e)
  have all : ∀ {xs : TE3} {ys : List (NestedKey × Addr × Value)}, Paired TPair xs ys → (∀ x ∈ xs, KeyOkN x.1) → KeysIn X.K H xs → ys.map entN = ys.map (entryOfKey (nestedKind X.prog X.w)) ∧ ∀ y ∈ ys, (nestedKind X.prog X.w).is s.heap y.1 y.2.1 := by
    intro xs ys p
    induction p with
    | nil => exact fun _ _ => ⟨rfl, fun y z => nomatch z⟩
    | @cons x y xs ys h t ih =>
      intro kk kn
      obtain ⟨i1, i2⟩ := ih (fun x hx => kk x (List.mem_cons_of_mem _ hx)) fun x hx => kn x (List.mem_cons_of_mem _ hx)
      have k0 := kk x List.mem_cons_self
      have d0 := kn x List.mem_cons_self
      have k1 : (nestedKind X.prog X.w).is s.heap y.1 y.2.1 := by
        rw [← h.1, ← h.2.1]
        exact key_isN I k0 d0
      refine ⟨?_, fun q hq => ?_⟩
      · rw [List.map_cons, List.map_cons, i1]
        congr 1
        show (⟨hashN y.1, .ref y.2.1, y.2.2⟩ : DictEntry) = ⟨y.1.hash X.w, .ref y.2.1, y.2.2⟩
        rw [hashN_is X.w y.1 (by rw [← h.1]; exact k0.1)]
      · rcases List.mem_cons.mp hq with rfl | hq
        · exact k1
        · exact i2 q hq
  obtain ⟨a1, a2⟩ := all p kk kn
  exact ⟨z, n, kk, ys, p, o, es, ep, h1, h2, h3, by rw [h4, a1], a2, h5⟩
end

/-- what the dict at a holds at the key y -/
def TGet (K : PySem.W.Frag) (H : Hp) (a : Addr) (y : V) (r : Option V) : Prop := ∃ xs k b, H a = some (HT a xs) ∧ KeysIn K H xs ∧ y = .ref b ∧ KeyOkN k ∧ Dp K H (.ref b) k.data ∧ r = findT xs k
def TPut (K : PySem.W.Frag) (H : Hp) (a : Addr) (y v : V) (H' : Hp) : Prop := ∃ xs k b, H a = some (HT a xs) ∧ KeysIn K H xs ∧ y = .ref b ∧ KeyOkN k ∧ Dp K H (.ref b) k.data ∧ xs.length < sizeLine ∧ H' = upd H a (HT a (putT xs k b v))
def GGet (K : PySem.W.Frag) (H : Hp) (a : Addr) (y : V) (r : Option V) : Prop := DGet H a y r ∨ TGet K H a y r
def GPut (K : PySem.W.Frag) (H : Hp) (a : Addr) (y v : V) (H' : Hp) : Prop := DPut H a y v H' ∨ TPut K H a y v H'
section
variable {X : Cx} {pins : List (Addr × Obj)} {σ : St} {H : Hp} {s : Shared} {a : Addr} {y v : V} {u r : Value} {o : Option V} {A : Around} {E : Value → Shared → Prop}
theorem roomN (hu : A.units + 20 < cLine) : (nestedKind X.prog X.w).room A.in1 := by
  show A.units + 1 + 8 < cLine
  omega
theorem g_getItem {Q : Value → Shared → Prop} (hu : A.units + 20 < cLine) (I : Inv X pins σ H s) (g : GGet X.K H a y (some v)) (ry : RelV y u) (h : ∀ w' s', Inv X pins σ H s' → RelV v w' → Q w' s') :
    wpAny (model X.prog X.w) A (getItem (.ref a) u) Q E s := by
  rcases g with g | ⟨xs, k, b, e, kn, rfl, ok, kb, l⟩
  · exact d_getItem (by omega) I g ry h
  · cases (show u = Value.ref b from ry)
    obtain ⟨z, hd, kk, ys, rel, dd⟩ := dictN_of I e kn
    obtain ⟨w', hw, rw'⟩ := RelO.some_of (v := v) (o := (atKey ys k).map (·.2)) (by rw [l]; exact findT_rel rel k)
    obtain ⟨p, hp, hp2⟩ := Option.map_eq_some_iff.mp hw
    refine wpAny_getItem_heap (roomN hu) (key_isN I ok kb) dd hp ?_
    rw [hp2]
    exact h w' _ (I.tok _) rw'
theorem g_in {Q : Value → Shared → Prop} (hu : A.units + 20 < cLine) (I : Inv X pins σ H s) (g : GGet X.K H a y o) (ry : RelV y u) (h : ∀ s', Inv X pins σ H s' → Q (.bool o.isSome) s') :
    wpAny (model X.prog X.w) A (compareOp .In u (.ref a)) Q E s := by
  rcases g with g | ⟨xs, k, b, e, kn, rfl, ok, kb, l⟩
  · exact d_in (by omega) I g ry h
  · cases (show u = Value.ref b from ry)
    obtain ⟨z, hd, kk, ys, rel, dd⟩ := dictN_of I e kn
    refine wpAny_in_heap (roomN hu) (key_isN I ok kb) hd dd ?_
    have q := (findT_rel rel k).isSome_eq
    rw [Option.isSome_map] at q
    rw [← q, ← l]
    exact h _ (I.tok _)
theorem g_notIn {Q : Value → Shared → Prop} (hu : A.units + 20 < cLine) (I : Inv X pins σ H s) (g : GGet X.K H a y o) (ry : RelV y u) (h : ∀ s', Inv X pins σ H s' → Q (.bool (!o.isSome)) s') :
    wpAny (model X.prog X.w) A (compareOp .NotIn u (.ref a)) Q E s := by
  rcases g with g | ⟨xs, k, b, e, kn, rfl, ok, kb, l⟩
  · exact d_notIn (by omega) I g ry h
  · cases (show u = Value.ref b from ry)
    obtain ⟨z, hd, kk, ys, rel, dd⟩ := dictN_of I e kn
    refine PyProof.Rows.wpAny_notIn_heap (roomN hu) (key_isN I ok kb) hd dd ?_
    have q := (findT_rel rel k).isSome_eq
    rw [Option.isSome_map] at q
    rw [← q, ← l]
    exact h _ (I.tok _)
theorem g_setItem {H' : Hp} {Q : Unit → Shared → Prop} (hu : A.units + 20 < cLine) (I : Inv X pins σ H s) (g : GPut X.K H a y v H') (ry : RelV y u) (rv : RelV v r) (h : ∀ s', Inv X pins σ H' s' → Q () s') :
    wpAny (model X.prog X.w) A (setItem (.ref a) u r) Q E s := by
  rcases g with g | ⟨xs, k, b, e, kn, rfl, ok, kb, l, eH⟩
  · exact d_setItem (by omega) I g ry rv h
  · subst eH
    cases (show u = Value.ref b from ry)
    obtain ⟨z, hd, kk, ys, rel, dd⟩ := dictN_of I e kn
    have hz : ys.length ≤ sizeLine := by rw [← Paired.length rel]; exact z
    have hl : (putT xs k b v).length ≤ sizeLine := by have := putT_len xs k b v; omega
    refine wpAny_setItem_heap (hsz := hz) (roomN hu) (key_isN I ok kb) dd fun h' dd' hs => h _ ?_
    obtain ⟨q, es, ep, hq, h2, h3, h4, h6, h5⟩ := dd'
    have rel' := putT_rel rel k b rv
    have kk' : ∀ x ∈ putT xs k b v, KeyOkN x.1 := fun x hx => by
      rcases putT_mem hx with z | ⟨y, hy, e1, _⟩
      · rw [z.1]; exact ok
      · rw [e1]; exact kk y hy
    have en : (storedH ys k b r).map (entryOfKey (nestedKind X.prog X.w)) = (storedH ys k b r).map entN := by
      have all : ∀ {xs : TE3} {ys : List (NestedKey × Addr × Value)}, Paired TPair xs ys → (∀ x ∈ xs, KeyOkN x.1) → ys.map (entryOfKey (nestedKind X.prog X.w)) = ys.map entN := by
        intro xs ys p
        induction p with
        | nil => exact fun _ => rfl
        | @cons x y xs ys h t ih =>
          intro kk
          rw [List.map_cons, List.map_cons, ih fun x hx => kk x (List.mem_cons_of_mem _ hx)]
          congr 1
          show (⟨y.1.hash X.w, .ref y.2.1, y.2.2⟩ : DictEntry) = ⟨hashN y.1, .ref y.2.1, y.2.2⟩
          rw [hashN_is X.w y.1 (by rw [← h.1]; exact (kk x List.mem_cons_self).1)]
      exact all rel' kk'
    exact d_write I (by rw [e]; exact True.intro) hs ⟨q, hq⟩ (tRaw_ok ⟨hl, hd, kk', _, rel', q, es, ep, hq, h2, h3, by rw [h4, en], h5⟩)
theorem g_typeIs (I : Inv X pins σ H s) (g : GGet X.K H a y o) : s.TypeIs (.ref a) "dict" := by
  rcases g with g | ⟨xs, k, b, e, kn, rfl, ok, kb, l⟩
  · exact dict_typeIs I g
  · obtain ⟨z, hd, kk, ys, rel, dd⟩ := dictN_of I e kn
    exact dd.typeIs
end
/-! ### readings and rules -/
def tGGet (K : PySem.W.Frag) (td ty : TE) : TE := fun σ H Q => td σ H fun x H1 => ty σ H1 fun y H2 => ∃ a v, x = .ref a ∧ GGet K H2 a y (some v) ∧ Q v H2
def tGIn (K : PySem.W.Frag) (neg : Bool) (ty td : TE) : TE := fun σ H Q => ty σ H fun y H1 => td σ H1 fun x H2 => ∃ a o, x = .ref a ∧ GGet K H2 a y o ∧ Q (.bl (neg != o.isSome)) H2
def sGPut (K : PySem.W.Frag) (td ty tv : TE) : TS := fun D σ H => tv σ H fun v H1 => td σ H1 fun x H2 => ty σ H2 fun y H3 => ∃ a H4, x = .ref a ∧ GPut K H3 a y v H4 ∧ D.nx σ H4
section
variable {X : Cx} {o i e value : Expr} {pos pos' tpos : Pos} {td ty tv : TE}
theorem pe_gget (hu : X.A.units + 20 < cLine) (ho : PE X o td) (hi : PE X i ty) (hs : NoSl i) : PE X (.Subscript o i pos) (tGGet X.K td ty) := by
  refine ⟨fun pins s σ H Q I h => ?_⟩
  refine subD_of PySem.F.slot_dict_getitem.lookup hs (thn (ho.run pins s σ H _ I h) fun u s1 ⟨x, H1, I1, rx, q1⟩ => thn (hi.run pins s1 σ H1 _ I1 q1) fun iv s2 ⟨y, H2, I2, ry, a, v, ex, g, q2⟩ => ?_)
  subst ex
  obtain rfl : u = Value.ref a := rx
  exact ⟨g_typeIs I2 g, g_getItem hu I2 g ry fun w' s3 I3 rw' => ⟨v, H2, I3, rw', q2⟩⟩
theorem pc_gin (hu : X.A.units + 20 < cLine) (hi : PE X i ty) (ho : PE X o td) : PC X .In i o (tGIn X.K false ty td) := by
  refine ⟨fun pins s σ H Q I h => ?_⟩
  refine thn (hi.run pins s σ H _ I h) fun iv s1 ⟨y, H1, I1, ry, q1⟩ => thn (ho.run pins s1 σ H1 _ I1 q1) fun u s2 ⟨x, H2, I2, rx, a, ov, ex, g, q2⟩ => ?_
  subst ex
  obtain rfl : u = Value.ref a := rx
  exact g_in hu I2 g ry fun s3 I3 => ⟨.bl ov.isSome, H2, I3, rfl, by simpa using q2⟩
theorem pc_gnotin (hu : X.A.units + 20 < cLine) (hi : PE X i ty) (ho : PE X o td) : PC X .NotIn i o (tGIn X.K true ty td) := by
  refine ⟨fun pins s σ H Q I h => ?_⟩
  refine thn (hi.run pins s σ H _ I h) fun iv s1 ⟨y, H1, I1, ry, q1⟩ => thn (ho.run pins s1 σ H1 _ I1 q1) fun u s2 ⟨x, H2, I2, rx, a, ov, ex, g, q2⟩ => ?_
  subst ex
  obtain rfl : u = Value.ref a := rx
  exact g_notIn hu I2 g ry fun s3 I3 => ⟨.bl (!ov.isSome), H2, I3, rfl, by simpa using q2⟩
theorem ps_gput (hu : X.A.units + 20 < cLine) (ho : PE X o td) (hi : PE X i ty) (hv : PE X value tv) (hs : swapsWith value (some (.Subscript o i pos')) pos.line X.env = pure false) :
    PS X (.Assign [.Subscript o i pos'] value pos) (sGPut X.K td ty tv) := by
  refine ⟨fun pins s σ H D I h => ?_⟩
  refine wpAny_Assign_Subscript (thn (hv.run pins s σ H _ I h) fun r s1 ⟨v, H1, I1, rv, q1⟩ => thn (ho.run pins s1 σ H1 _ I1 q1) fun u s2 ⟨x, H2, I2, rx, q2⟩ => thn (hi.run pins s2 σ H2 _ I2 q2) fun iv s3 ⟨y, H3, I3, ry, a, H4, ex, g, q3⟩ => ?_) hs
  subst ex
  obtain rfl : u = Value.ref a := rx
  exact g_setItem hu I3 g ry rv fun s4 I4 => ⟨σ, H4, I4, q3⟩
end
/-- {}: of keys that are tuples -/
def tGNewT : TE := fun _ H Q => ∀ p, H p = none → Q (.ref p) (upd H p (HT p []))
theorem pe_gnewT {X : Cx} {pos : Pos} : PE X (.Dict [] [] pos) tGNewT := ⟨fun pins s σ H Q I h => by
  refine wpAny_Dict_empty ⟨.ref s.heap.objs.size, _, I.laid (a := s.heap.objs.size) (o := HT s.heap.objs.size []) (t' := s.toks) (fun _ _ q => Heap.get?_push_of_some _ q) (Nat.le_refl _) (tRaw_ok ?_), rfl, h _ (I.hok.fresh (Nat.le_refl _))⟩
  exact ⟨Nat.zero_le _, beq_eq_false_iff_ne.mpr (Ne.symm (Nat.ne_of_lt I.big)), fun _ z => (nomatch z), [], .nil, _, #[], 0, Heap.get?_push_size _ rfl, ⟨rfl, rfl, rfl⟩, rfl, rfl, List.nodup_nil⟩⟩
end Mir
/-! Mir, part B: how mirror values lie in the abstract heap; what it is for a reading to be simulated. -/
namespace Mir
open PySem PySem.Spec L2

/-! ### data in a heap that grows -/
section
variable {K : PySem.W.Frag}
theorem sqL_up {Φ Ψ : Hp} (e : Same Φ Ψ) {a : Addr} {xs : List V} (h : SqL K Φ a xs) : SqL K Ψ a xs := e.seq h
theorem sqT_up {Φ Ψ : Hp} (e : Same Φ Ψ) {a : Addr} {xs : List V} (h : SqT K Φ a xs) : SqT K Ψ a xs := by
  rcases h with (q | ⟨o, q⟩) | q
  · exact .inl (.inl (e _ _ q))
  · exact .inl (.inr ⟨o, e _ _ q⟩)
  · exact .inr q
mutual
theorem dp_up {Φ Ψ : Hp} (e : Same Φ Ψ) : ∀ {v : V} {d : D}, Dp K Φ v d → Dp K Ψ v d
  | _, _, .non => .non
  | _, _, .bl b => .bl b
  | _, _, .int i => .int i
  | _, _, .str x => .str x
  | _, _, .lst h r => .lst (sqL_up e h) (dpA_up e r)
  | _, _, .tup h r => .tup (sqT_up e h) (dpA_up e r)
theorem dpA_up {Φ Ψ : Hp} (e : Same Φ Ψ) : ∀ {vs : List V} {ds : List D}, DpAll K Φ vs ds → DpAll K Ψ vs ds
  | _, _, .nil => .nil
  | _, _, .cons h r => .cons (dp_up e h) (dpA_up e r)
end
theorem dpA_len {Φ : Hp} : ∀ {vs : List V} {ds : List D}, DpAll K Φ vs ds → vs.length = ds.length
  | _, _, .nil => rfl
  | _, _, .cons _ r => congrArg (· + 1) (dpA_len r)
theorem dpA_app {Φ : Hp} : ∀ {vs us : List V} {ds es : List D}, DpAll K Φ vs ds → DpAll K Φ us es → DpAll K Φ (vs ++ us) (ds ++ es)
  | _, _, _, _, .nil, s => s
  | _, _, _, _, .cons h r, s => .cons h (dpA_app r s)
theorem dpA_get {Φ : Hp} : ∀ {vs : List V} {ds : List D} {i : Nat} {d : D}, DpAll K Φ vs ds → ds[i]? = some d → ∃ v, vs[i]? = some v ∧ Dp K Φ v d
  | _, _, _, _, .nil, h => by simp at h
  | _, _, 0, _, .cons h r, e => by
    have e' := Option.some.inj e
    subst e'
    exact ⟨_, rfl, h⟩
  | _, _, i + 1, _, .cons h r, e => dpA_get (i := i) r e
theorem dpA_getV {Φ : Hp} : ∀ {vs : List V} {ds : List D} {i : Nat} {v : V}, DpAll K Φ vs ds → vs[i]? = some v → ∃ d, ds[i]? = some d ∧ Dp K Φ v d
  | _, _, _, _, .nil, h => by simp at h
  | _, _, 0, _, .cons h r, e => by
    have e' := Option.some.inj e
    subst e'
    exact ⟨_, rfl, h⟩
  | _, _, i + 1, _, .cons h r, e => dpA_getV (i := i) r e
theorem dpA_set {Φ : Hp} {v : V} {d : D} (h : Dp K Φ v d) : ∀ {vs : List V} {ds : List D} (i : Nat), DpAll K Φ vs ds → DpAll K Φ (vs.set i v) (ds.set i d)
  | _, _, _, .nil => .nil
  | _, _, 0, .cons _ r => .cons h r
  | _, _, i + 1, .cons q r => .cons q (dpA_set h i r)
theorem dpA_drop {Φ : Hp} : ∀ {vs : List V} {ds : List D} (n : Nat), DpAll K Φ vs ds → DpAll K Φ (vs.drop n) (ds.drop n)
  | _, _, 0, r => r
  | _, _, _ + 1, .nil => .nil
  | _, _, n + 1, .cons _ r => dpA_drop n r
theorem dpA_take {Φ : Hp} : ∀ {vs : List V} {ds : List D} (n : Nat), DpAll K Φ vs ds → DpAll K Φ (vs.take n) (ds.take n)
  | _, _, 0, _ => .nil
  | _, _, _ + 1, .nil => .nil
  | _, _, n + 1, .cons h r => .cons h (dpA_take n r)
theorem dpA_rev {Φ : Hp} : ∀ {vs : List V} {ds : List D}, DpAll K Φ vs ds → DpAll K Φ vs.reverse ds.reverse
  | _, _, .nil => .nil
  | _, _, .cons h r => by
    rw [List.reverse_cons, List.reverse_cons]
    exact dpA_app (dpA_rev r) (.cons h .nil)
theorem dpA_erase {Φ : Hp} : ∀ {vs : List V} {ds : List D} (i : Nat), DpAll K Φ vs ds → DpAll K Φ (vs.eraseIdx i) (ds.eraseIdx i)
  | _, _, _, .nil => .nil
  | _, _, 0, .cons _ r => r
  | _, _, i + 1, .cons h r => .cons h (dpA_erase i r)
theorem dpA_dropLast {Φ : Hp} : ∀ {vs : List V} {ds : List D}, DpAll K Φ vs ds → DpAll K Φ vs.dropLast ds.dropLast
  | _, _, .nil => .nil
  | _, _, .cons h .nil => .nil
  | _, _, .cons h (.cons h2 r) => by
    rw [List.dropLast_cons_cons, List.dropLast_cons_cons]
    exact .cons h (dpA_dropLast (.cons h2 r))
theorem dpA_rep {Φ : Hp} {vs : List V} {ds : List D} (h : DpAll K Φ vs ds) : ∀ n : Nat, DpAll K Φ (List.replicate n vs).flatten (List.replicate n ds).flatten
  | 0 => .nil
  | n + 1 => by
    rw [List.replicate_succ, List.replicate_succ, List.flatten_cons, List.flatten_cons]
    exact dpA_app h (dpA_rep h n)
theorem dpA_ints {Φ : Hp} : ∀ {vs : List V} {ds : List D} {ns : List Int}, DpAll K Φ vs ds → intsOf ds = .ok ns → vs = ns.map V.int
  | _, _, _, .nil, e => by cases e; rfl
  | _, _, _, .cons h r, e => by
    cases h with
    | int i =>
      obtain ⟨l, h1, h2⟩ := Res.bind_eq_ok.mp e
      cases h2
      rw [dpA_ints r h1]
      rfl
    | non => cases e
    | bl b => cases e
    | str x => cases e
    | lst _ _ => cases e
    | tup _ _ => cases e
theorem dpA_bools {Φ : Hp} : ∀ {vs : List V} {ds : List D} {ns : List Bool}, DpAll K Φ vs ds → boolsOf ds = .ok ns → vs = ns.map V.bl
  | _, _, _, .nil, e => by cases e; rfl
  | _, _, _, .cons h r, e => by
    cases h with
    | bl i =>
      obtain ⟨l, h1, h2⟩ := Res.bind_eq_ok.mp e
      cases h2
      rw [dpA_bools r h1]
      rfl
    | non => cases e
    | int b => cases e
    | str x => cases e
    | lst _ _ => cases e
    | tup _ _ => cases e
end

/-! ### heaps -/
theorem same_new {H : Hp} {p : Addr} {o : HO} (h : H p = none) : Same H (upd H p o) := fun b x e => by
  rw [upd_ne (ne_of_none e h)]
  exact e
theorem same_upd2 {Φ H : Hp} {p : Addr} {o : HO} (e : Same Φ H) : Same (upd Φ p o) (upd H p o) := fun b x q => by
  by_cases hb : b = p
  · subst hb
    rw [upd_same] at q ⊢
    exact q
  · rw [upd_ne hb] at q ⊢
    exact e _ _ q
theorem same_put {Φ H : Hp} {p : Addr} {o : HO} (e : Same Φ H) (n : Φ p = none) : Same Φ (upd H p o) := fun b x q => by
  rw [upd_ne (ne_of_none q n)]
  exact e _ _ q
theorem same_none {Φ H : Hp} (e : Same Φ H) {p : Addr} (h : H p = none) : Φ p = none := e.free h

/-- new objects, all of them known -/
structure Grow (Φ H Φ' H' : Hp) : Prop where
  up : Same Φ Φ'
  sub : Same Φ' H'
  hs : Same H H'
  old : ∀ a, H a ≠ none → Φ' a = Φ a
theorem Grow.refl {Φ H : Hp} (s : Same Φ H) : Grow Φ H Φ H := ⟨Same.refl _, s, Same.refl _, fun _ _ => rfl⟩
theorem Grow.new {Φ H : Hp} (s : Same Φ H) {p : Addr} {o : HO} (n : H p = none) : Grow Φ H (upd Φ p o) (upd H p o) :=
  ⟨same_new (same_none s n), same_upd2 s, same_new n, fun a ha => upd_ne fun e => ha (e ▸ n)⟩

/-! ### dicts -/
def keyD : Key → D
  | .inl i => .int i
  | .inr x => .str x
inductive DKs (K : PySem.W.Frag) (Φ : Hp) : List (Key × V) → List (D × D) → Prop
  | nil : DKs K Φ [] []
  | cons {k : Key} {v : V} {d : D} {xs : List (Key × V)} {kvs : List (D × D)} : Dp K Φ v d → DKs K Φ xs kvs → DKs K Φ ((k, v) :: xs) ((keyD k, d) :: kvs)
inductive DTs (K : PySem.W.Frag) (Φ : Hp) : TE3 → List (D × D) → Prop
  | nil : DTs K Φ [] []
  | cons {k : NestedKey} {q : Addr} {v : V} {d : D} {xs : TE3} {kvs : List (D × D)} : Dp K Φ (.ref q) k.data → Dp K Φ v d → DTs K Φ xs kvs → DTs K Φ ((k, q, v) :: xs) ((k.data, d) :: kvs)
theorem dks_up {K : PySem.W.Frag} {Φ Ψ : Hp} (e : Same Φ Ψ) {xs : List (Key × V)} {kvs : List (D × D)} (h : DKs K Φ xs kvs) : DKs K Ψ xs kvs := by
  induction h with
  | nil => exact .nil
  | cons h _ ih => exact .cons (dp_up e h) ih
theorem dts_up {K : PySem.W.Frag} {Φ Ψ : Hp} (e : Same Φ Ψ) {xs : TE3} {kvs : List (D × D)} (h : DTs K Φ xs kvs) : DTs K Ψ xs kvs := by
  induction h with
  | nil => exact .nil
  | cons h1 h2 _ ih => exact .cons (dp_up e h1) (dp_up e h2) ih
/-- the thing at a is this dict -/
def DictO (K : PySem.W.Frag) (Φ : Hp) (a : Addr) (o : HO) : List (D × D) → Prop
  | (.bool false, _) :: kvs => ∃ xs, o = .dK xs ∧ DKs K Φ xs kvs
  | (.bool true, _) :: kvs => ∃ xs, o = HT a xs ∧ DTs K Φ xs kvs
  | _ => False
theorem dictO_up {K : PySem.W.Frag} {Φ Ψ : Hp} (e : Same Φ Ψ) {a : Addr} {o : HO} {kvs : List (D × D)} (h : DictO K Φ a o kvs) : DictO K Ψ a o kvs := by
  match kvs, h with
  | [], h => exact h
  | (.bool false, _) :: _, ⟨xs, e1, e2⟩ => exact ⟨xs, e1, dks_up e e2⟩
  | (.bool true, _) :: _, ⟨xs, e1, e2⟩ => exact ⟨xs, e1, dts_up e e2⟩
  | (.none, _) :: _, h => exact h
  | (.int _, _) :: _, h => exact h
  | (.str _, _) :: _, h => exact h
  | (.list _, _) :: _, h => exact h
  | (.tuple _, _) :: _, h => exact h
  | (.dict _, _) :: _, h => exact h
/-- a thing of one's own at a -/
def Held (K : PySem.W.Frag) (Φ H : Hp) (a : Addr) : D → Prop
  | .list ds => ∃ vs, H a = some (.lst vs) ∧ DpAll K Φ vs ds
  | .dict kvs => ∃ o, H a = some o ∧ DictO K Φ a o kvs
  | _ => False
theorem Held.some {K : PySem.W.Frag} {Φ H : Hp} {a : Addr} {d : D} (h : Held K Φ H a d) : ∃ o, H a = some o := by
  cases d with
  | list ds => exact ⟨_, h.choose_spec.1⟩
  | dict kvs => exact ⟨_, h.choose_spec.1⟩
  | _ => exact False.elim h
theorem Held.ne {K : PySem.W.Frag} {Φ H : Hp} {a : Addr} {d : D} (h : Held K Φ H a d) : H a ≠ none := fun z => by
  obtain ⟨o, e⟩ := h.some
  rw [z] at e
  cases e
theorem Held.move {K : PySem.W.Frag} {Φ Ψ H H' : Hp} {a : Addr} {d : D} (h : Held K Φ H a d) (up : Same Φ Ψ) (st : ∀ o, H a = Option.some o → H' a = Option.some o) : Held K Ψ H' a d := by
  cases d with
  | list ds =>
    obtain ⟨vs, e, r⟩ := h
    exact ⟨vs, st _ e, dpA_up up r⟩
  | dict kvs =>
    obtain ⟨o, e, r⟩ := h
    exact ⟨o, st _ e, dictO_up up r⟩
  | _ => exact h
theorem Held.isL {K : PySem.W.Frag} {Φ H : Hp} {a : Addr} {d : D} (h : Held K Φ H a d) : isLd d = true := by
  cases d with
  | list ds => rfl
  | dict kvs => rfl
  | _ => exact False.elim h

/-! ### slots -/
/-- a slot that holds a thing that can change -/
def IsL (ε : MEnv) (i : Nat) : Prop := ∃ d, ε[i]? = some (some d) ∧ isLd d = true
/-- the mark of a slot that holds dicts alone -/
def dTag : V := .ty "dict"
/-- what an owned slot holds: a list or dict of its own, or a thing that never changes -/
def OwnV (K : PySem.W.Frag) (Φ G H : Hp) (v : V) : D → Prop
  | .list ds => ∃ a, v = .ref a ∧ Φ a = none ∧ G a = none ∧ Held K Φ H a (.list ds)
  | .dict kvs => ∃ a, v = .ref a ∧ Φ a = none ∧ G a = none ∧ Held K Φ H a (.dict kvs)
  | d => Dp K Φ v d
theorem OwnV.own {K : PySem.W.Frag} {Φ G H : Hp} {v : V} {d : D} (h : OwnV K Φ G H v d) (l : isLd d = true) : ∃ a, v = .ref a ∧ Φ a = none ∧ G a = none ∧ Held K Φ H a d := by
  cases d with
  | list ds => exact h
  | dict kvs => exact h
  | _ => cases l
theorem OwnV.of {K : PySem.W.Frag} {Φ G H : Hp} {v : V} {d : D} {a : Addr} (e : v = .ref a) (f : Φ a = none) (g : G a = none) (h : Held K Φ H a d) : OwnV K Φ G H v d := by
  cases d with
  | list ds => exact ⟨a, e, f, g, h⟩
  | dict kvs => exact ⟨a, e, f, g, h⟩
  | _ => exact False.elim h
theorem ownV_other {K : PySem.W.Frag} {Φ G H : Hp} {v : V} {d : D} (h : OwnV K Φ G H v d) (n : isLd d = false) : Dp K Φ v d := by
  cases d with
  | list ds => cases n
  | dict ds => cases n
  | _ => exact h
theorem ownV_plain {K : PySem.W.Frag} {Φ G H : Hp} {v : V} {d : D} (h : Dp K Φ v d) (n : isLd d = false) : OwnV K Φ G H v d := by
  cases d with
  | list ds => cases n
  | dict ds => cases n
  | _ => exact h
theorem dp_noD {K : PySem.W.Frag} {Φ : Hp} {v : V} {d : D} (h : Dp K Φ v d) : isDd d = false := by
  cases h <;> rfl
/-- what is owned, in another heap -/
theorem OwnV.move {K : PySem.W.Frag} {Φ Φ' G G' H H' : Hp} {v : V} {d : D} (h : OwnV K Φ G H v d) (up : Same Φ Φ') (st : ∀ a, v = .ref a → isLd d = true → Φ a = none → G a = none → Held K Φ H a d → Φ' a = none ∧ G' a = none ∧ ∀ o, H a = some o → H' a = some o) : OwnV K Φ' G' H' v d := by
  cases hl : isLd d with
  | false => exact ownV_plain (dp_up up (ownV_other h hl)) hl
  | true =>
    obtain ⟨a, e, f, g, hh⟩ := h.own hl
    obtain ⟨f', g', st'⟩ := st a e hl f g hh
    exact .of e f' g' (hh.move up st')

structure Rel (K : PySem.W.Frag) (Φ G : Hp) (pn : List (Nat × V)) (O : List Nat) (σ : St) (ε : MEnv) (H : Hp) : Prop where
  sub : Same Φ H
  gsub : Same G H
  gfree : ∀ a, G a ≠ none → Φ a = none
  len : ε.length = σ.length
  sh : ∀ i d, i ∉ O → isDd d = false → ε[i]? = some (some d) → ∃ v, σ[i]? = some (some v) ∧ Dp K Φ v d
  ow : ∀ i d, i ∈ O → ε[i]? = some (some d) → ∃ v, σ[i]? = some (some v) ∧ OwnV K Φ G H v d
  inj : ∀ i j a, i ∈ O → j ∈ O → i ≠ j → IsL ε i → IsL ε j → σ[i]? = some (some (.ref a)) → σ[j]? = some (some (.ref a)) → False
  pin : ∀ p ∈ pn, p.2 ≠ dTag → σ[p.1]? = some (some p.2)
  tag : ∀ i d, isDd d = true → ε[i]? = some (some d) → (i, dTag) ∈ pn

/-- a value that is read: it never changes, or it is a list whose items never change -/
def DpR (K : PySem.W.Frag) (Φ H : Hp) (v : V) (d : D) : Prop := Dp K Φ v d ∨ ∃ a vs ds, v = .ref a ∧ d = .list ds ∧ H a = some (.lst vs) ∧ DpAll K Φ vs ds
inductive DpRs (K : PySem.W.Frag) (Φ H : Hp) : List V → List D → Prop
  | nil : DpRs K Φ H [] []
  | cons {v : V} {d : D} {vs : List V} {ds : List D} : DpR K Φ H v d → DpRs K Φ H vs ds → DpRs K Φ H (v :: vs) (d :: ds)
section
variable {K : PySem.W.Frag} {Φ G H : Hp} {pn : List (Nat × V)} {O O' : List Nat} {σ : St} {ε : MEnv}
theorem DpR.dp {v : V} {d : D} (s : Same Φ H) (h : DpR K Φ H v d) : Dp K H v d := by
  rcases h with h | ⟨a, vs, ds, rfl, rfl, h1, h2⟩
  · exact dp_up s h
  · exact .lst (.inl (.inl h1)) (dpA_up s h2)
/-- a list that is read -/
theorem DpR.list {v : V} {ds : List D} (s : Same Φ H) (h : DpR K Φ H v (.list ds)) : ∃ a vs, v = .ref a ∧ SqL K H a vs ∧ DpAll K Φ vs ds := by
  rcases h with h | ⟨a, vs, ds', rfl, e, h1, h2⟩
  · cases h with
    | lst h1 h2 => exact ⟨_, _, rfl, sqL_up s h1, h2⟩
  · cases e
    exact ⟨a, vs, rfl, .inl (.inl h1), h2⟩
theorem DpR.tuple {v : V} {ds : List D} (h : DpR K Φ H v (.tuple ds)) : ∃ a vs, v = .ref a ∧ SqT K Φ a vs ∧ DpAll K Φ vs ds := by
  rcases h with h | ⟨a, vs, ds', rfl, e, h1, h2⟩
  · cases h with
    | tup h1 h2 => exact ⟨_, _, rfl, h1, h2⟩
  · cases e
theorem DpR.int {v : V} {i : Int} (h : DpR K Φ H v (.int i)) : v = .int i := by
  rcases h with h | ⟨a, vs, ds', rfl, e, h1, h2⟩
  · cases h
    rfl
  · cases e
theorem DpR.bool {v : V} {i : Bool} (h : DpR K Φ H v (.bool i)) : v = .bl i := by
  rcases h with h | ⟨a, vs, ds', rfl, e, h1, h2⟩
  · cases h
    rfl
  · cases e
theorem DpR.str {v : V} {i : Str} (h : DpR K Φ H v (.str i)) : v = .str i := by
  rcases h with h | ⟨a, vs, ds', rfl, e, h1, h2⟩
  · cases h
    rfl
  · cases e

theorem Rel.noD (R : Rel K Φ G pn O σ ε H) {i : Nat} {d : D} (h : ε[i]? = some (some d)) (n : (i, dTag) ∉ pn) : isDd d = false := by
  cases hd : isDd d with
  | false => rfl
  | true => exact absurd (R.tag i d hd h) n
theorem Rel.get (R : Rel K Φ G pn O σ ε H) {i : Nat} {d : D} (h : ε[i]? = some (some d)) (n : (i, dTag) ∉ pn) : ∃ v, σ[i]? = some (some v) ∧ DpR K Φ H v d := by
  have nd := R.noD h n
  by_cases hi : i ∈ O
  · obtain ⟨v, h1, h2⟩ := R.ow i d hi h
    refine ⟨v, h1, ?_⟩
    cases d with
    | list ds =>
      obtain ⟨a, e, _, _, vs, h3, h4⟩ := h2
      exact .inr ⟨a, vs, ds, e, rfl, h3, h4⟩
    | dict kvs => cases nd
    | _ => exact .inl h2
  · obtain ⟨v, h1, h2⟩ := R.sh i d hi nd h
    exact ⟨v, h1, .inl h2⟩
theorem look_ok {ε : MEnv} {i : Nat} {d : D} (h : look ε i = .ok d) : ε[i]? = some (some d) := by
  unfold look at h
  split at h
  · cases h
    assumption
  · cases h

theorem Rel.congr (R : Rel K Φ G pn O σ ε H) (h : ∀ i, i ∈ O ↔ i ∈ O') : Rel K Φ G pn O' σ ε H :=
  ⟨R.sub, R.gsub, R.gfree, R.len, fun i d hi e => R.sh i d (fun z => hi ((h i).mp z)) e, fun i d hi e => R.ow i d ((h i).mpr hi) e,
    fun i j a hi hj => R.inj i j a ((h i).mpr hi) ((h j).mpr hj), R.pin, R.tag⟩

def rem (i : Nat) (O : List Nat) : List Nat := O.filter fun j => decide (j ≠ i)
theorem mem_rem {i j : Nat} {O : List Nat} : j ∈ rem i O ↔ j ∈ O ∧ j ≠ i := by
  unfold rem
  rw [List.mem_filter, decide_eq_true_iff]

/-- an owned slot is given up: what it holds never changes from here on -/
theorem Rel.freeze (R : Rel K Φ G pn O σ ε H) (i : Nat) : ∃ Ψ, Same Φ Ψ ∧ Rel K Ψ G pn (rem i O) σ ε H ∧ ∀ v, (∃ d, ε[i]? = some (some d) ∧ σ[i]? = some (some v) ∧ True) → ∀ d, isDd d = false → ε[i]? = some (some d) → Dp K Ψ v d := by
  have plain : (∀ ds, i ∈ O → ε[i]? ≠ some (some (.list ds))) → ∃ Ψ, Same Φ Ψ ∧ Rel K Ψ G pn (rem i O) σ ε H ∧ ∀ v, (∃ d, ε[i]? = some (some d) ∧ σ[i]? = some (some v) ∧ True) → ∀ d, isDd d = false → ε[i]? = some (some d) → Dp K Ψ v d := by
    intro nl
    have key : ∀ d, isDd d = false → ε[i]? = some (some d) → ∃ v, σ[i]? = some (some v) ∧ Dp K Φ v d := fun d nd e => by
      by_cases hi : i ∈ O
      · obtain ⟨v, h1, h2⟩ := R.ow i d hi e
        refine ⟨v, h1, ownV_other h2 ?_⟩
        cases d with
        | list ds => exact absurd e (nl ds hi)
        | dict ds => cases nd
        | _ => rfl
      · exact R.sh i d hi nd e
    refine ⟨Φ, Same.refl _, ⟨R.sub, R.gsub, R.gfree, R.len, fun j d hj nd e => ?_, fun j d hj e => R.ow j d (mem_rem.mp hj).1 e,
      fun j k a hj hk => R.inj j k a (mem_rem.mp hj).1 (mem_rem.mp hk).1, R.pin, R.tag⟩, fun v hv d nd e => ?_⟩
    · by_cases h : j = i
      · subst h
        exact key d nd e
      · exact R.sh j d (fun z => hj (mem_rem.mpr ⟨z, h⟩)) nd e
    · obtain ⟨_, _, hs, _⟩ := hv
      obtain ⟨v', h1, h2⟩ := key d nd e
      rw [hs] at h1
      cases h1
      exact h2
  by_cases c : i ∈ O ∧ ∃ ds, ε[i]? = some (some (.list ds))
  · obtain ⟨hi, ds, e⟩ := c
    obtain ⟨v, h1, a, ev, fa, ga, vs, ha, hd⟩ := R.ow i _ hi e
    subst ev
    have up : Same Φ (upd Φ a (.lst vs)) := same_new fa
    have neA : ∀ j d v, j ∈ rem i O → ε[j]? = some (some d) → σ[j]? = some (some v) → OwnV K Φ G H v d → OwnV K (upd Φ a (.lst vs)) G H v d := fun j d v hj ej sj hv => by
      refine hv.move up fun b eb hl fb gb hb => ⟨?_, gb, fun _ z => z⟩
      rw [upd_ne]
      · exact fb
      · intro z
        subst z
        subst eb
        exact R.inj j i b (mem_rem.mp hj).1 hi (mem_rem.mp hj).2 ⟨d, ej, hl⟩ ⟨_, e, rfl⟩ sj h1
    refine ⟨upd Φ a (.lst vs), up, ⟨fun b x q => ?_, R.gsub, fun b hb => ?_, R.len, fun j d hj nd ej => ?_, fun j d hj ej => ?_, fun j k c hj hk => R.inj j k c (mem_rem.mp hj).1 (mem_rem.mp hk).1, R.pin, R.tag⟩, fun v hv d nd ed => ?_⟩
    · by_cases hb : b = a
      · subst hb
        rw [upd_same] at q
        cases q
        exact ha
      · rw [upd_ne hb] at q
        exact R.sub _ _ q
    · rw [upd_ne]
      · exact R.gfree b hb
      · intro z
        subst z
        exact hb ga
    · by_cases h : j = i
      · subst h
        rw [e] at ej
        cases ej
        exact ⟨.ref a, h1, .lst (.inl (.inl upd_same)) (dpA_up up hd)⟩
      · obtain ⟨v, s1, s2⟩ := R.sh j d (fun z => hj (mem_rem.mpr ⟨z, h⟩)) nd ej
        exact ⟨v, s1, dp_up up s2⟩
    · obtain ⟨v, s1, s2⟩ := R.ow j d (mem_rem.mp hj).1 ej
      exact ⟨v, s1, neA j d v hj ej s1 s2⟩
    · obtain ⟨_, _, hs, _⟩ := hv
      rw [e] at ed
      cases ed
      rw [h1] at hs
      cases hs
      exact .lst (.inl (.inl upd_same)) (dpA_up up hd)
  · exact plain fun ds z q => c ⟨z, ds, q⟩

theorem Rel.keepOnly (R : Rel K Φ G pn O σ ε H) : ∀ L : List Nat, ∃ Ψ, Same Φ Ψ ∧ Rel K Ψ G pn (O.filter fun j => decide (j ∉ L)) σ ε H
  | [] => ⟨Φ, Same.refl _, R.congr fun i => by simp⟩
  | l :: L => by
    obtain ⟨Ψ, s, R1⟩ := R.keepOnly L
    obtain ⟨Ξ, s2, R2, _⟩ := R1.freeze l
    refine ⟨Ξ, s.trans s2, R2.congr fun i => ?_⟩
    rw [mem_rem, List.mem_filter, List.mem_filter, decide_eq_true_iff, decide_eq_true_iff, List.mem_cons, not_or]
    exact ⟨fun ⟨⟨a, b⟩, c⟩ => ⟨a, c, b⟩, fun ⟨a, c, b⟩ => ⟨⟨a, b⟩, c⟩⟩
/-- fewer slots are owned -/
theorem Rel.weak (R : Rel K Φ G pn O σ ε H) (h : ∀ i ∈ O', i ∈ O) : ∃ Ψ, Same Φ Ψ ∧ Rel K Ψ G pn O' σ ε H := by
  obtain ⟨Ψ, s, R1⟩ := R.keepOnly (O.filter fun i => decide (i ∉ O'))
  refine ⟨Ψ, s, R1.congr fun i => ?_⟩
  rw [List.mem_filter, decide_eq_true_iff, List.mem_filter, decide_eq_true_iff]
  constructor
  · rintro ⟨a, b⟩
    exact Classical.byContradiction fun z => b ⟨a, z⟩
  · intro a
    exact ⟨h i a, fun z => z.2 a⟩

theorem Rel.grow (R : Rel K Φ G pn O σ ε H) {Φ' H' : Hp} (g : Grow Φ H Φ' H') : Rel K Φ' G pn O σ ε H' := by
  refine ⟨g.sub, R.gsub.trans g.hs, fun a ha => ?_, R.len, fun i d hi nd e => ?_, fun i d hi e => ?_, R.inj, R.pin, R.tag⟩
  · rw [g.old a fun z => ha (R.gsub.free z)]
    exact R.gfree a ha
  · obtain ⟨v, h1, h2⟩ := R.sh i d hi nd e
    exact ⟨v, h1, dp_up g.up h2⟩
  · obtain ⟨v, h1, h2⟩ := R.ow i d hi e
    exact ⟨v, h1, h2.move g.up fun a _ _ fa ga hh => ⟨(g.old a hh.ne).trans fa, ga, fun o z => g.hs _ _ z⟩⟩

/-- no owned slot holds p -/
def Lone (O : List Nat) (σ : St) (ε : MEnv) (p : Addr) : Prop := ∀ i ∈ O, IsL ε i → σ[i]? ≠ some (some (.ref p))
theorem Rel.lone_new (R : Rel K Φ G pn O σ ε H) {p : Addr} (h : H p = none) : Lone O σ ε p := fun i hi hl e => by
  obtain ⟨d, el, l⟩ := hl
  obtain ⟨v, h1, h2⟩ := R.ow i _ hi el
  obtain ⟨a, rfl, _, _, hh⟩ := h2.own l
  rw [e] at h1
  cases h1
  exact hh.ne h
/-- an unowned list is known from here on -/
theorem Rel.shut (R : Rel K Φ G pn O σ ε H) {p : Addr} {ws : List V} (hp : H p = some (.lst ws)) (fp : Φ p = none) (gp : G p = none) (l : Lone O σ ε p) : Rel K (upd Φ p (.lst ws)) G pn O σ ε H := by
  have up : Same Φ (upd Φ p (.lst ws)) := same_new fp
  refine ⟨fun b x q => ?_, R.gsub, fun b hb => ?_, R.len, fun i d hi nd e => ?_, fun i d hi e => ?_, R.inj, R.pin, R.tag⟩
  · by_cases hb : b = p
    · subst hb
      rw [upd_same] at q
      cases q
      exact hp
    · rw [upd_ne hb] at q
      exact R.sub _ _ q
  · rw [upd_ne]
    · exact R.gfree b hb
    · intro z
      subst z
      exact hb gp
  · obtain ⟨v, h1, h2⟩ := R.sh i d hi nd e
    exact ⟨v, h1, dp_up up h2⟩
  · obtain ⟨v, h1, h2⟩ := R.ow i d hi e
    refine ⟨v, h1, h2.move up fun a ea hl fa ga hh => ⟨?_, ga, fun _ z => z⟩⟩
    rw [upd_ne]
    · exact fa
    · intro z
      subst z
      subst ea
      exact l i hi ⟨d, e, hl⟩ h1

theorem set_get {α : Type} {l : List α} {i j : Nat} {x : α} : (l.set i x)[j]? = if i = j then (if i < l.length then some x else none) else l[j]? := by
  rw [List.getElem?_set]

/-- x = e, a value that never changes -/
theorem Rel.set (R : Rel K Φ G pn O σ ε H) {i : Nat} {v : V} {d : D} (hp : ∀ p ∈ pn, p.1 ≠ i) (h : Dp K Φ v d) : Rel K Φ G pn (rem i O) (σ.set i (some v)) (ε.set i (some d)) H := by
  have other : ∀ j, j ≠ i → (ε.set i (some d))[j]? = ε[j]? ∧ (σ.set i (some v))[j]? = σ[j]? := fun j hj => by
    rw [List.getElem?_set_ne (Ne.symm hj), List.getElem?_set_ne (Ne.symm hj)]
    exact ⟨rfl, rfl⟩
  refine ⟨R.sub, R.gsub, R.gfree, by rw [List.length_set, List.length_set]; exact R.len, fun j e hj nd q => ?_, fun j e hj q => ?_, fun j k a hj hk n lj lk sj sk => ?_, fun p hp' nt => ?_, fun j e he q => ?_⟩
  · by_cases hji : j = i
    · subst hji
      rw [set_get, if_pos rfl] at q
      split at q
      · cases q
        rename_i hl
        refine ⟨v, ?_, h⟩
        rw [set_get, if_pos rfl, if_pos (by rw [← R.len]; exact hl)]
      · cases q
    · obtain ⟨e1, e2⟩ := other j hji
      rw [e1] at q
      rw [e2]
      exact R.sh j e (fun z => hj (mem_rem.mpr ⟨z, hji⟩)) nd q
  · obtain ⟨hO, hji⟩ := mem_rem.mp hj
    obtain ⟨e1, e2⟩ := other j hji
    rw [e1] at q
    rw [e2]
    exact R.ow j e hO q
  · obtain ⟨oj, ji⟩ := mem_rem.mp hj
    obtain ⟨ok, ki⟩ := mem_rem.mp hk
    obtain ⟨ds, lj, mj⟩ := lj
    obtain ⟨es, lk, mk⟩ := lk
    rw [(other j ji).1] at lj
    rw [(other k ki).1] at lk
    rw [(other j ji).2] at sj
    rw [(other k ki).2] at sk
    exact R.inj j k a oj ok n ⟨ds, lj, mj⟩ ⟨es, lk, mk⟩ sj sk
  · rw [(other p.1 (hp p hp')).2]
    exact R.pin p hp' nt
  · by_cases hji : j = i
    · subst hji
      rw [set_get, if_pos rfl] at q
      split at q
      · cases q
        rw [dp_noD h] at he
        cases he
      · cases q
    · rw [(other j hji).1] at q
      exact R.tag j e he q
/-- x = e, a list or dict of its own -/
theorem Rel.setH (R : Rel K Φ G pn O σ ε H) {i : Nat} {p : Addr} {d : D} (hp : ∀ p ∈ pn, p.1 = i → p.2 = dTag) (h : Held K Φ H p d) (fp : Φ p = none) (gp : G p = none) (l : Lone O σ ε p) (ht : isDd d = true → (i, dTag) ∈ pn) :
    Rel K Φ G pn (i :: O) (σ.set i (some (.ref p))) (ε.set i (some d)) H := by
  have other : ∀ j, j ≠ i → (ε.set i (some d))[j]? = ε[j]? ∧ (σ.set i (some (.ref p)))[j]? = σ[j]? := fun j hj => by
    rw [List.getElem?_set_ne (Ne.symm hj), List.getElem?_set_ne (Ne.symm hj)]
    exact ⟨rfl, rfl⟩
  refine ⟨R.sub, R.gsub, R.gfree, by rw [List.length_set, List.length_set]; exact R.len, fun j e hj nd q => ?_, fun j e hj q => ?_, fun j k a hj hk n lj lk sj sk => ?_, fun p hp' nt => ?_, fun j e he q => ?_⟩
  · rw [List.mem_cons, not_or] at hj
    obtain ⟨e1, e2⟩ := other j hj.1
    rw [e1] at q
    rw [e2]
    exact R.sh j e hj.2 nd q
  · by_cases hji : j = i
    · subst hji
      rw [set_get, if_pos rfl] at q
      split at q
      · cases q
        rename_i hl
        refine ⟨.ref p, ?_, .of rfl fp gp h⟩
        rw [set_get, if_pos rfl, if_pos (by rw [← R.len]; exact hl)]
      · cases q
    · obtain ⟨e1, e2⟩ := other j hji
      rw [e1] at q
      rw [e2]
      exact R.ow j e ((List.mem_cons.mp hj).resolve_left hji) q
  · by_cases hji : j = i
    · subst hji
      have hk2 : k ≠ j := Ne.symm n
      obtain ⟨es, lk, mk⟩ := lk
      rw [(other k hk2).1] at lk
      rw [(other k hk2).2] at sk
      rw [set_get, if_pos rfl] at sj
      split at sj
      · cases sj
        exact l k ((List.mem_cons.mp hk).resolve_left hk2) ⟨es, lk, mk⟩ sk
      · cases sj
    · by_cases hki : k = i
      · subst hki
        obtain ⟨es, lj, mj⟩ := lj
        rw [(other j hji).1] at lj
        rw [(other j hji).2] at sj
        rw [set_get, if_pos rfl] at sk
        split at sk
        · cases sk
          exact l j ((List.mem_cons.mp hj).resolve_left hji) ⟨es, lj, mj⟩ sj
        · cases sk
      · obtain ⟨ds, lj, mj⟩ := lj
        obtain ⟨es, lk, mk⟩ := lk
        rw [(other j hji).1] at lj
        rw [(other k hki).1] at lk
        rw [(other j hji).2] at sj
        rw [(other k hki).2] at sk
        exact R.inj j k a ((List.mem_cons.mp hj).resolve_left hji) ((List.mem_cons.mp hk).resolve_left hki) n ⟨ds, lj, mj⟩ ⟨es, lk, mk⟩ sj sk
  · rw [(other p.1 fun z => nt (hp p hp' z)).2]
    exact R.pin p hp' nt
  · by_cases hji : j = i
    · subst hji
      rw [set_get, if_pos rfl] at q
      split at q
      · cases q
        exact ht he
      · cases q
    · rw [(other j hji).1] at q
      exact R.tag j e he q
theorem Rel.setL (R : Rel K Φ G pn O σ ε H) {i : Nat} {p : Addr} {ws : List V} {ds : List D} (hp : ∀ p ∈ pn, p.1 ≠ i) (h : H p = some (.lst ws)) (fp : Φ p = none) (gp : G p = none) (l : Lone O σ ε p) (hd : DpAll K Φ ws ds) :
    Rel K Φ G pn (i :: O) (σ.set i (some (.ref p))) (ε.set i (some (.list ds))) H := R.setH (fun p hp' z => absurd z (hp p hp')) ⟨ws, h, hd⟩ fp gp l fun z => (nomatch z)
/-- a thing of one's own is changed -/
theorem Rel.putH (R : Rel K Φ G pn O σ ε H) {i : Nat} {a : Addr} {o : HO} {d e : D} (hi : i ∈ O) (hl : ε[i]? = some (some d)) (dl : isLd d = true) (hs : σ[i]? = some (some (.ref a))) (hd : Held K Φ (upd H a o) a e) (de : isDd e = true → isDd d = true) :
    Rel K Φ G pn O σ (ε.set i (some e)) (upd H a o) := by
  obtain ⟨v, h1, h2⟩ := R.ow i _ hi hl
  obtain ⟨a', rfl, fa, ga, ha⟩ := h2.own dl
  rw [hs] at h1
  cases h1
  have il : i < ε.length := by
    rcases Nat.lt_or_ge i ε.length with h | h
    · exact h
    · rw [List.getElem?_eq_none h] at hl
      cases hl
  have isl : ∀ j, IsL (ε.set i (some e)) j → IsL ε j := fun j ⟨fs, q, m⟩ => by
    by_cases hji : i = j
    · subst hji
      exact ⟨d, hl, dl⟩
    · rw [List.getElem?_set_ne hji] at q
      exact ⟨fs, q, m⟩
  refine ⟨same_put R.sub fa, same_put R.gsub ga, R.gfree, by rw [List.length_set]; exact R.len, fun j e hj nd q => ?_, fun j e hj q => ?_, fun j k b hj hk n lj lk => R.inj j k b hj hk n (isl j lj) (isl k lk), R.pin, fun j e' he q => ?_⟩
  · have hji : i ≠ j := fun z => hj (z ▸ hi)
    rw [List.getElem?_set_ne hji] at q
    exact R.sh j e hj nd q
  · by_cases hji : i = j
    · subst hji
      rw [set_get, if_pos rfl, if_pos il] at q
      cases q
      exact ⟨.ref a, hs, .of rfl fa ga hd⟩
    · rw [List.getElem?_set_ne hji] at q
      obtain ⟨v, s1, s2⟩ := R.ow j e hj q
      refine ⟨v, s1, s2.move (Same.refl _) fun b eb lb fb gb hb => ⟨fb, gb, fun o' z => ?_⟩⟩
      rw [upd_ne]
      · exact z
      · intro y
        subst y
        subst eb
        exact R.inj i j b hi hj hji ⟨d, hl, dl⟩ ⟨e, q, lb⟩ hs s1
  · by_cases hji : i = j
    · subst hji
      rw [set_get, if_pos rfl, if_pos il] at q
      cases q
      exact R.tag i d (de he) hl
    · rw [List.getElem?_set_ne hji] at q
      exact R.tag j e' he q
theorem Rel.put (R : Rel K Φ G pn O σ ε H) {i : Nat} {a : Addr} {ws : List V} {ds es : List D} (hi : i ∈ O) (hl : ε[i]? = some (some (.list ds))) (hs : σ[i]? = some (some (.ref a))) (hd : DpAll K Φ ws es) :
    Rel K Φ G pn O σ (ε.set i (some (.list es))) (upd H a (.lst ws)) := R.putH hi hl rfl hs ⟨ws, upd_same, hd⟩ fun z => (nomatch z)
end

/-! ### simulation -/
/-- what comes of an expression: a list that nobody owns (b), or a value that never changes -/
def Out (K : PySem.W.Frag) (Φ G : Hp) (O : List Nat) (σ : St) (ε : MEnv) (H : Hp) (b : Bool) (v : V) (d : D) : Prop := match b, d with
  | true, .list ds => ∃ p ws, v = .ref p ∧ H p = some (.lst ws) ∧ Φ p = none ∧ G p = none ∧ Lone O σ ε p ∧ DpAll K Φ ws ds
  | _, d => Dp K Φ v d
def Sim (K : PySem.W.Frag) (pn : List (Nat × V)) (O O' : List Nat) (b : Bool) (t : TE) (m : MEnv → Res (D × MEnv)) : Prop :=
  ∀ (Φ G : Hp) (σ : St) (ε ε' : MEnv) (H : Hp) (d : D) (Q : VK), Rel K Φ G pn O σ ε H → m ε = .ok (d, ε') →
    (∀ Φ' H' v, Rel K Φ' G pn O' σ ε' H' → Same Φ Φ' → Out K Φ' G O' σ ε' H' b v d → Q v H') → t σ H Q
def SimT (K : PySem.W.Frag) (pn : List (Nat × V)) (O O' : List Nat) (t : TT) (m : MEnv → Res (D × MEnv)) : Prop :=
  ∀ (Φ G : Hp) (σ : St) (ε ε' : MEnv) (H : Hp) (d : D) (Q : Bool → Hp → Prop), Rel K Φ G pn O σ ε H → m ε = .ok (d, ε') →
    (∀ Φ' H' k, d = .bool k → Rel K Φ' G pn O' σ ε' H' → Same Φ Φ' → Q k H') → t σ H Q
/-- an operand: a value that never changes, or a slot's -/
def OvR (K : PySem.W.Frag) (Φ : Hp) (σ : St) (v : V) : OV → Prop
  | .val d => Dp K Φ v d
  | .sl i => σ[i]? = some (some v)
inductive OvRs (K : PySem.W.Frag) (Φ : Hp) (σ : St) : List V → List OV → Prop
  | nil : OvRs K Φ σ [] []
  | cons {v : V} {o : OV} {vs : List V} {os : List OV} : OvR K Φ σ v o → OvRs K Φ σ vs os → OvRs K Φ σ (v :: vs) (o :: os)
/-- no operand is a dict's slot -/
def NoDs (pn : List (Nat × V)) (os : List OV) : Prop := ∀ i, OV.sl i ∈ os → (i, dTag) ∉ pn
def SimA (K : PySem.W.Frag) (pn : List (Nat × V)) (O O' : List Nat) (t : TA) (m : MEnv → Res (List OV × MEnv)) : Prop :=
  ∀ (Φ G : Hp) (σ : St) (ε ε' : MEnv) (H : Hp) (os : List OV) (Q : List V → Hp → Prop), Rel K Φ G pn O σ ε H → m ε = .ok (os, ε') →
    (∀ Φ' H' vs, Rel K Φ' G pn O' σ ε' H' → Same Φ Φ' → OvRs K Φ' σ vs os → Q vs H') → t σ H Q
/-- Om, fr: the slots that are handed back, whether the answer is a list of the asker's own -/
def SimS (K : PySem.W.Frag) (pn : List (Nat × V)) (Om : List Nat) (fr : Bool) (O : List Nat) (O' : Option (List Nat)) (t : TS) (m : MEnv → Res Flow) : Prop :=
  (O' = none → ∀ ε ε', m ε ≠ .ok (.nx ε')) ∧
  ∀ (Φ G : Hp) (σ : St) (ε : MEnv) (H : Hp) (fl : Flow) (E : Ends), Rel K Φ G pn O σ ε H → m ε = .ok fl →
    (∀ ε' O1, fl = .nx ε' → O' = some O1 → ∀ Φ' H' σ', Rel K Φ' G pn O1 σ' ε' H' → Same Φ Φ' → E.nx σ' H') →
    (∀ d ε', fl = .rt d ε' → ∀ Φ' H' σ' v, Rel K Φ' G pn Om σ' ε' H' → Same Φ Φ' → Out K Φ' G Om σ' ε' H' fr v d → E.rt v H') → t E σ H

section
variable {K : PySem.W.Frag} {pn : List (Nat × V)} {O O' O1 : List Nat}
theorem Out.up {Φ Ψ G : Hp} {σ : St} {ε : MEnv} {H : Hp} {v : V} {d : D} (h : Out K Φ G O σ ε H false v d) (s : Same Φ Ψ) : Dp K Ψ v d := by
  cases d <;> exact dp_up s h
theorem Out.dp {Φ G : Hp} {σ : St} {ε : MEnv} {H : Hp} {v : V} {d : D} (h : Out K Φ G O σ ε H false v d) : Dp K Φ v d := by
  cases d <;> exact h
theorem Out.of {Φ G : Hp} {σ : St} {ε : MEnv} {H : Hp} {v : V} {d : D} (h : Dp K Φ v d) : Out K Φ G O σ ε H false v d := by
  cases d <;> exact h
theorem Out.scalar {Φ G : Hp} {σ : St} {ε : MEnv} {H : Hp} {v : V} {d : D} {b : Bool} (h : Dp K Φ v d) (n : ∀ ds, d ≠ .list ds) : Out K Φ G O σ ε H b v d := by
  cases b
  · exact .of h
  · cases d with
    | list ds => exact absurd rfl (n ds)
    | _ => exact h
theorem Sim.shut {t : TE} {m : MEnv → Res (D × MEnv)} {b : Bool} (h : Sim K pn O O' b t m) : Sim K pn O O' false t m := by
  cases b
  · exact h
  · intro Φ G σ ε ε' H d Q R e q
    refine h Φ G σ ε ε' H d Q R e fun Φ' H' v R' s o => ?_
    cases d with
    | list ds =>
      obtain ⟨p, ws, rfl, hp, fp, gp, l, hd⟩ := o
      have up : Same Φ' (upd Φ' p (.lst ws)) := same_new fp
      exact q _ _ _ (R'.shut hp fp gp l) (s.trans up) (.lst (.inl (.inl upd_same)) (dpA_up up hd))
    | _ => exact q _ _ _ R' s o
theorem Sim.weak {t : TE} {m : MEnv → Res (D × MEnv)} (h : Sim K pn O O' false t m) (w : ∀ i ∈ O1, i ∈ O') : Sim K pn O O1 false t m := by
  intro Φ G σ ε ε' H d Q R e q
  refine h Φ G σ ε ε' H d Q R e fun Φ' H' v R' s o => ?_
  obtain ⟨Ψ, s2, R2⟩ := R'.weak w
  exact q Ψ H' v R2 (s.trans s2) (.of (o.up s2))
theorem SimT.weak {t : TT} {m : MEnv → Res (D × MEnv)} (h : SimT K pn O O' t m) (w : ∀ i ∈ O1, i ∈ O') : SimT K pn O O1 t m := by
  intro Φ G σ ε ε' H d Q R e q
  refine h Φ G σ ε ε' H d Q R e fun Φ' H' k ek R' s => ?_
  obtain ⟨Ψ, s2, R2⟩ := R'.weak w
  exact q Ψ H' k ek R2 (s.trans s2)
theorem OvRs.up {Φ Ψ : Hp} {σ : St} (s : Same Φ Ψ) : ∀ {vs : List V} {os : List OV}, OvRs K Φ σ vs os → OvRs K Ψ σ vs os
  | _, _, .nil => .nil
  | _, _, .cons (o := .val d) h r => .cons (o := .val d) (dp_up s h) (OvRs.up s r)
  | _, _, .cons (o := .sl i) h r => .cons (o := .sl i) h (OvRs.up s r)
theorem OvRs.res {Φ G : Hp} {σ : St} {ε : MEnv} {H : Hp} (R : Rel K Φ G pn O σ ε H) : ∀ {vs : List V} {os : List OV} {ds : List D}, OvRs K Φ σ vs os → NoDs pn os → resolve ε os = .ok ds → DpRs K Φ H vs ds
  | _, _, _, .nil, _, e => by cases e; exact .nil
  | _, _, _, .cons (o := o) h r, nd, e => by
    obtain ⟨d, h1, e⟩ := Res.bind_eq_ok.mp e
    obtain ⟨ds, h2, e⟩ := Res.bind_eq_ok.mp e
    cases e
    refine .cons ?_ (OvRs.res R r (fun i hi => nd i (List.mem_cons_of_mem _ hi)) h2)
    cases o with
    | val d' =>
      cases h1
      exact .inl h
    | sl i =>
      obtain ⟨v', s1, s2⟩ := R.get (look_ok h1) (nd i List.mem_cons_self)
      have h' : σ[i]? = some (some _) := h
      rw [h'] at s1
      cases s1
      exact s2
end
end Mir
/-! Mir, part C: each primitive operation is what the machine does. -/
namespace Mir
open PySem PySem.Spec L2

/-- wished of a primitive operation: its value never changes -/
def RP (K : PySem.W.Frag) (f : List D → Res D) : List V → Hp → VK → Prop := fun vs H Q =>
  ∃ (Φ : Hp) (ds : List D) (r : D), Same Φ H ∧ DpRs K Φ H vs ds ∧ f ds = .ok r ∧ ∀ Φ' H' w, Grow Φ H Φ' H' → Dp K Φ' w r → Q w H'
/-- .. a list that comes of it is new -/
def RF (K : PySem.W.Frag) (f : List D → Res D) : List V → Hp → VK → Prop := fun vs H Q =>
  ∃ (Φ : Hp) (ds : List D) (r : D), Same Φ H ∧ DpRs K Φ H vs ds ∧ f ds = .ok r ∧
    (∀ rs, r = .list rs → ∀ p ws, H p = none → DpAll K Φ ws rs → Q (.ref p) (upd H p (.lst ws))) ∧ ((∀ rs, r ≠ .list rs) → ∀ Φ' H' w, Grow Φ H Φ' H' → Dp K Φ' w r → Q w H')
section
variable {K : PySem.W.Frag} {Φ H : Hp}
theorem DpRs.one {x : V} {ds : List D} (h : DpRs K Φ H [x] ds) : ∃ d, ds = [d] ∧ DpR K Φ H x d := by
  cases h with
  | cons a r =>
    cases r
    exact ⟨_, rfl, a⟩
theorem DpRs.two {x y : V} {ds : List D} (h : DpRs K Φ H [x, y] ds) : ∃ d e, ds = [d, e] ∧ DpR K Φ H x d ∧ DpR K Φ H y e := by
  cases h with
  | cons a r =>
    obtain ⟨e, rfl, b⟩ := r.one
    exact ⟨_, _, rfl, a, b⟩
theorem DpRs.all (s : Same Φ H) : ∀ {vs : List V} {ds : List D}, DpRs K Φ H vs ds → DpAll K H vs ds
  | _, _, .nil => .nil
  | _, _, .cons a r => .cons (a.dp s) (DpRs.all s r)
end
theorem guard_bind {α : Type} {c : Bool} {f : Res α} {a : α} (h : (Res.guard c >>= fun _ => f) = .ok a) : c = true ∧ f = .ok a := by
  obtain ⟨u, h1, h2⟩ := Res.bind_eq_ok.mp h
  exact ⟨Res.guard_ok.mp h1, h2⟩
theorem fit_le {n : Nat} (h : fitN n = true) : n ≤ sizeLine := of_decide_eq_true h

section
variable {X : Cx}
/-! ### operators -/
theorem mulOk_ok {i j : Int} (h : mulOk i j = true) : IntMulOk i j := by
  unfold mulOk at h
  rw [Bool.or_eq_true, Bool.or_eq_true, decide_eq_true_iff, decide_eq_true_iff, decide_eq_true_iff] at h
  rcases h with (h | h) | h
  · exact CMul.ok (.inl ⟨by omega, by omega⟩)
  · exact CMul.ok (.inr ⟨by omega, by omega⟩)
  · exact CMulW.ok h
theorem nP {j : Int} (i : Int) (h : j.natAbs.log2 < 9000) : Builtin.divisionGoesByPylong i j = false := PyProof.noPylong_of_log2 h

theorem o_sub : OpR X (binaryOp .Sub) (fun x y H Q => RF X.K (prim .sub) [x, y] H Q) := by
  intro pins s σ H x y v u Q I rx ry h
  obtain ⟨Φ, ds, r, sb, hd, e, ql, qs⟩ := h
  obtain ⟨d1, d2, rfl, h1, h2⟩ := hd.two
  have e : pSub d1 d2 = .ok r := e
  unfold pSub at e
  split at e
  · cases e
    cases h1.int
    cases h2.int
    exact op_sub pins s σ H _ _ v u Q I rx ry ⟨_, _, rfl, rfl, qs (fun _ z => nomatch z) _ _ _ (.refl sb) (.int _)⟩
  · cases e
theorem o_add : OpR X (binaryOp .Add) (fun x y H Q => RF X.K (prim .add) [x, y] H Q) := by
  intro pins s σ H x y v u Q I rx ry h
  obtain ⟨Φ, ds, r, sb, hd, e, ql, qs⟩ := h
  obtain ⟨d1, d2, rfl, h1, h2⟩ := hd.two
  have e : pAdd d1 d2 = .ok r := e
  unfold pAdd at e
  split at e
  · cases e
    cases h1.int
    cases h2.int
    exact op_add pins s σ H _ _ v u Q I rx ry ⟨_, _, rfl, rfl, qs (fun _ z => nomatch z) _ _ _ (.refl sb) (.int _)⟩
  · obtain ⟨hz, e⟩ := guard_bind e
    cases e
    cases h1.str
    cases h2.str
    exact op_add_str pins s σ H _ _ v u Q I rx ry ⟨_, _, rfl, rfl, fit_le hz, qs (fun _ z => nomatch z) _ _ _ (.refl sb) (.str _)⟩
  · obtain ⟨hz, e⟩ := guard_bind e
    cases e
    obtain ⟨a, xs, rfl, sx, dx⟩ := h1.tuple
    obtain ⟨b, ys, rfl, sy, dy⟩ := h2.tuple
    have l1 := dpA_len dx
    have l2 := dpA_len dy
    have q := qs (fun _ z => nomatch z)
    refine op_catA pins s σ H _ _ v u Q I rx ry ⟨a, b, xs, ys, rfl, rfl, sqT_up sb sx, sqT_up sb sy, by rw [l1, l2]; exact fit_le hz, fun z => ?_, fun _ z => ?_, fun _ _ p np => ?_⟩
    · refine q _ _ _ (.refl sb) (.tup sy ?_)
      have := dpA_app dx dy
      rw [z] at this
      exact this
    · refine q _ _ _ (.refl sb) (.tup sx ?_)
      have := dpA_app dx dy
      rw [z, List.append_nil] at this
      exact this
    · exact q _ _ _ (.new sb np) (.tup (.inl (.inl upd_same)) (dpA_up (same_new (same_none sb np)) (dpA_app dx dy)))
  · obtain ⟨hz, e⟩ := guard_bind e
    cases e
    obtain ⟨a, xs, rfl, sx, dx⟩ := h1.list sb
    obtain ⟨b, ys, rfl, sy, dy⟩ := h2.list sb
    have l1 := dpA_len dx
    have l2 := dpA_len dy
    cases rx
    cases ry
    obtain ⟨its, r1, ⟨o1, n1, e1, c1, d1, f1⟩, z1⟩ := I.list sx
    obtain ⟨its2, r2, ⟨o2, n2, e2, c2, d2, f2⟩, z2⟩ := I.list sy
    have k1 := r1.length
    have k2 := r2.length
    have hz := fit_le hz
    obtain ⟨cl1, dd1, dt1, sl1⟩ := o1
    obtain ⟨cl2, dd2, dt2, sl2⟩ := o2
    simp only at c1 f1 c2 f2
    subst c1 f1 c2 f2
    refine concat_meets ⟨_, e1, rfl⟩ ⟨_, e2, rfl⟩ noFill_list_add seq_list_add F.slot_list_add F.entry_list_add (F.args_list_add_2 _ _)
      (PyProof.Rows.list_addW a b its.toArray its2.toArray n1 n2 _ _ _ _ (by rw [List.size_toArray, List.size_toArray]; omega)) ⟨e1, e2, ?_⟩
    have ea : its.toArray ++ its2.toArray = (its ++ its2).toArray := by simp
    rw [ea]
    exact ⟨.ref _, _, I.lnew (t' := s.toks) (r1.append r2) (by rw [List.length_append]; omega), rfl, ql _ rfl _ _ I.fresh (dpA_app dx dy)⟩
  · cases e

/-! ### int operators -/
theorem o_int {o : Operator} {op : Pr} {f : D → D → Res D} (hp : ∀ a b, prim op [a, b] = f a b)
    (hf : ∀ a b r, f a b = .ok r → ∃ i j k, a = .int i ∧ b = .int j ∧ r = .int k ∧
      ∀ (t u : Tok) (s : Shared) (Q : Value → Shared → Prop) (E : Value → Shared → Prop), Q (.int k s.toks) { s with toks := s.toks + 1 } → wpAny (model X.prog X.w) X.A (binaryOp o (.int i t) (.int j u)) Q E s) :
    OpR X (binaryOp o) (fun x y H Q => RF X.K (prim op) [x, y] H Q) := by
  intro pins s σ H x y v u Q I rx ry h
  obtain ⟨Φ, ds, r, sb, hd, e, ql, qs⟩ := h
  obtain ⟨d1, d2, rfl, h1, h2⟩ := hd.two
  rw [hp] at e
  obtain ⟨i, j, k, rfl, rfl, rfl, rule⟩ := hf _ _ _ e
  cases h1.int
  cases h2.int
  obtain ⟨t, rfl⟩ := rx
  obtain ⟨t', rfl⟩ := ry
  exact rule t t' s _ _ ⟨.int k, H, I.tok _, ⟨_, rfl⟩, qs (fun _ z => nomatch z) _ _ _ (.refl sb) (.int _)⟩
theorem tuple_mulS (l : Addr) (items : Array Value) (n : Nat) (dd : Option Addr) (sl : Array (Option Value)) (x : Int) (u : Tok) (c0 : (decide (x < -(2 ^ 63)) || decide (x ≥ 2 ^ 63)) = false) (c1 : (items.isEmpty || x == 1) = true) :
    Meets (Builtin.«tuple.__mul__» ⟨[.ref l, .int x u], []⟩) (fun _ R s => s.heap.get? l = some { cls := .type "tuple", dict := dd, data := .seq items n, slots := sl } ∧
      R (.ok (.ret (Value.ref l))) s) :=
  .of_wp fun prog w A R s h => by
    obtain ⟨hp, g, d, tk, os⟩ := s
    obtain ⟨hl, h⟩ := h
    have f1 := PySem.AutoSeq1.idx_int
    wp_walk using wpAny_loadPart' hl
    repeat (first
      | (refine wpAny_ite_false (decide_eq_false (by rw [c0]; exact Bool.false_ne_true)) ?_; wp_walk using wpAny_loadPart' hl)
      | (refine wpAny_ite_true (decide_eq_true c1) ?_; wp_walk using wpAny_loadPart' hl)
      | (refine wpAny_ite_true (decide_eq_true (by decide)) ?_; wp_walk using wpAny_loadPart' hl))
    exact ⟨_, rfl, h⟩
theorem tuple_mul0 (l : Addr) (items : Array Value) (n : Nat) (dd : Option Addr) (sl : Array (Option Value)) (x : Int) (u : Tok) (c0 : (decide (x < -(2 ^ 63)) || decide (x ≥ 2 ^ 63)) = false) (c1 : (items.isEmpty || x == 1) = false) (c2 : (decide (x ≤ 0) || items.isEmpty) = true) :
    Meets (Builtin.«tuple.__mul__» ⟨[.ref l, .int x u], []⟩) (fun _ R s => s.heap.get? l = some { cls := .type "tuple", dict := dd, data := .seq items n, slots := sl } ∧
      R (.ok (.ret (Value.ref s.heap.objs.size))) { s with heap := s.heap.push { cls := Value.type "tuple", data := Data.seq #[] }, toks := s.toks }) :=
  .of_wp fun prog w A R s h => by
    obtain ⟨hp, g, d, tk, os⟩ := s
    obtain ⟨hl, h⟩ := h
    have f1 := PySem.AutoSeq1.idx_int
    wp_walk using wpAny_loadPart' hl
    repeat (first
      | (refine wpAny_ite_false (decide_eq_false (by rw [c0]; exact Bool.false_ne_true)) ?_; wp_walk using wpAny_loadPart' hl)
      | (refine wpAny_ite_false (decide_eq_false (by rw [c1]; exact Bool.false_ne_true)) ?_; wp_walk using wpAny_loadPart' hl)
      | (refine wpAny_ite_true (decide_eq_true c2) ?_; wp_walk using wpAny_loadPart' hl)
      | (refine wpAny_ite_false (decide_eq_false (by decide)) ?_; wp_walk using wpAny_loadPart' hl))
    exact ⟨_, rfl, h⟩
theorem rep_flat {α : Type} (n : Nat) : (List.replicate n ([] : List α)).flatten = [] := by
  induction n with
  | zero => rfl
  | succ n ih => rw [List.replicate_succ, List.flatten_cons, ih]; rfl
theorem op_tmul : OpR X (binaryOp .Mult) (fun x y H Q => ∃ l k xs, x = .ref l ∧ y = .int k ∧ SqT X.K H l xs ∧ 0 ≤ k ∧ k ≤ 1000 ∧ xs.length ≤ 1000 ∧ (xs = [] ∨ k = 1 → Q (.ref l) H) ∧ (¬ (xs = [] ∨ k = 1) → ∀ p, H p = none → Q (.ref p) (upd H p (.tup (List.replicate k.toNat xs).flatten)))) := by
  intro pins s σ H x y v u Q I rx ry h
  obtain ⟨l, k, xs, rfl, rfl, hT, h1, h2, hz, q1, q2⟩ := h
  by_cases hk : 2 ≤ k ∧ xs ≠ []
  · exact op_repT pins s σ H _ _ v u Q I rx ry ⟨l, k, xs, rfl, rfl, hT, hk.2, hk.1, h2, hz, q2 (by rintro (z | z); exact hk.2 z; omega)⟩
  cases rx
  obtain ⟨t, rfl⟩ := ry
  obtain ⟨its, r, ⟨⟨cls, dd, data, sl⟩, ho, hc, n, hd⟩, hs⟩ := I.tuple hT
  simp only at hc hd
  subst hc hd
  have hle : its.length = xs.length := r.length.symm
  have c0 : (decide (k < -(2 ^ 63)) || decide (k ≥ 2 ^ 63)) = false := by
    rw [decide_eq_false (by omega), decide_eq_false (by omega)] <;> rfl
  by_cases hc : xs = [] ∨ k = 1
  · have c1 : (its.toArray.isEmpty || k == 1) = true := by
      rcases hc with rfl | rfl
      · have : its = [] := List.eq_nil_of_length_eq_zero hle
        subst this
        rfl
      · simp
    exact wpAny_binaryOp_repeat_ref (T := "tuple") (U := "int") (by decide) ⟨_, ho, rfl⟩ (fun s' => typeIs_int s' k t) noFill_tuple_mul F.fills_int_mul F.slot_int_rmul repeat_tuple F.slot_int_index.lookup
      (call_meets F.slot_int_rmul (typeIs_int s k t) F.entry_int_rmul (F.args_int_rmul_2 _ _) (int_rmul_tuple k t l its.toArray n dd sl)
        ⟨ho, rfl, ⟨_, ho, rfl⟩, call_meets F.slot_tuple_mul ⟨_, ho, rfl⟩ F.entry_tuple_mul (F.args_tuple_mul_2 _ _) (tuple_mulS l its.toArray n dd sl k t c0 c1) ⟨ho, ⟨.ref l, H, I, rfl, q1 hc⟩⟩⟩)
  · have hne : xs ≠ [] := fun z => hc (.inl z)
    have k0 : k = 0 := by
      by_cases z : 2 ≤ k
      · exact absurd ⟨z, hne⟩ hk
      · have : k ≠ 1 := fun z => hc (.inr z)
        omega
    subst k0
    have hi : its.toArray.isEmpty = false := by
      cases its with
      | nil => exact absurd (List.eq_nil_of_length_eq_zero hle.symm) hne
      | cons a b => rfl
    have c1 : (its.toArray.isEmpty || (0 : Int) == 1) = false := by rw [hi]; rfl
    have c2 : (decide ((0 : Int) ≤ 0) || its.toArray.isEmpty) = true := by rw [hi]; rfl
    refine wpAny_binaryOp_repeat_ref (T := "tuple") (U := "int") (by decide) ⟨_, ho, rfl⟩ (fun s' => typeIs_int s' 0 t) noFill_tuple_mul F.fills_int_mul F.slot_int_rmul repeat_tuple F.slot_int_index.lookup
      (call_meets F.slot_int_rmul (typeIs_int s 0 t) F.entry_int_rmul (F.args_int_rmul_2 _ _) (int_rmul_tuple 0 t l its.toArray n dd sl)
        ⟨ho, rfl, ⟨_, ho, rfl⟩, call_meets F.slot_tuple_mul ⟨_, ho, rfl⟩ F.entry_tuple_mul (F.args_tuple_mul_2 _ _) (tuple_mul0 l its.toArray n dd sl 0 t c0 c1 c2) ⟨ho, ?_⟩⟩)
    refine ⟨.ref s.heap.objs.size, _, I.laid (t' := s.toks) (o := .tup []) (fun b ob q => Heap.get?_push_of_some _ q) (Nat.le_refl _) ?_, rfl, q2 hc _ (I.hok.fresh (Nat.le_refl _))⟩
    exact ⟨Nat.zero_le _, [], .nil, PyProof.Rows.IsTup.new _ _⟩
theorem dpA_flat {K : PySem.W.Frag} {Φ : Hp} {vs : List V} {ds : List D} (h : DpAll K Φ vs ds) (n : Nat) : DpAll K Φ (List.replicate n vs).flatten (List.replicate n ds).flatten := dpA_rep h n
theorem o_mul : OpR X (binaryOp .Mult) (fun x y H Q => RF X.K (prim .mul) [x, y] H Q) := by
  intro pins s σ H x y v u Q I rx ry h
  obtain ⟨Φ, ds, r, sb, hd, e, ql, qs⟩ := h
  obtain ⟨d1, d2, rfl, h1, h2⟩ := hd.two
  have e : pMul d1 d2 = .ok r := e
  unfold pMul at e
  split at e
  · obtain ⟨hz, e⟩ := guard_bind e
    cases e
    cases h1.int
    cases h2.int
    obtain ⟨t, rfl⟩ := rx
    obtain ⟨t', rfl⟩ := ry
    exact PyProof.Rows.mul_int ⟨.int _, H, I.tok _, ⟨_, rfl⟩, qs (fun _ z => nomatch z) _ _ _ (.refl sb) (.int _)⟩ (mulOk_ok hz)
  · obtain ⟨hz, e⟩ := guard_bind e
    cases e
    rename_i xs k _e
    simp only [Bool.and_eq_true, decide_eq_true_eq] at hz
    obtain ⟨⟨z1, z2⟩, z3⟩ := hz
    cases h2.int
    obtain ⟨a, vs, rfl, sx, dx⟩ := h1.tuple
    have q := qs (fun _ z => nomatch z)
    have hl := dpA_len dx
    refine op_tmul pins s σ H _ _ v u Q I rx ry ⟨a, k, vs, rfl, rfl, sqT_up sb sx, z2, z3, by omega, fun hc => ?_, fun hc p np => ?_⟩
    · refine q _ _ _ (.refl sb) (.tup sx ?_)
      rcases hc with rfl | rfl
      · cases dx
        rw [rep_flat]
        exact .nil
      · show DpAll X.K Φ vs (List.replicate 1 xs).flatten
        rw [List.replicate_one, List.flatten_singleton]
        exact dx
    · exact q _ _ _ (.new sb np) (.tup (.inl (.inl upd_same)) (dpA_up (same_new (same_none sb np)) (dpA_flat dx _)))
  · cases e
theorem o_fdiv : OpR X (binaryOp .FloorDiv) (fun x y H Q => RF X.K (prim .fdiv) [x, y] H Q) := o_int (f := pFdiv) (fun _ _ => rfl) fun a b r e => by
  unfold pFdiv at e
  split at e
  · rename_i i j
    obtain ⟨hz, e⟩ := guard_bind e
    cases e
    unfold divOk at hz
    rw [Bool.and_eq_true, decide_eq_true_iff, decide_eq_true_iff] at hz
    refine ⟨_, _, _, rfl, rfl, rfl, fun t u s Q E q => PyProof.Rows.floordiv_int hz.1 ?_ (.inl (nP _ hz.2))⟩
    by_cases hj : 0 < j
    · rw [if_pos hj] at q
      rw [Int.fdiv_eq_ediv_of_nonneg i (by omega)]
      exact q
    · rw [if_neg hj] at q
      exact q
  · cases e
theorem o_mod : OpR X (binaryOp .Mod) (fun x y H Q => RF X.K (prim .mod) [x, y] H Q) := o_int (f := pMod) (fun _ _ => rfl) fun a b r e => by
  unfold pMod at e
  split at e
  · rename_i i j
    obtain ⟨hz, e⟩ := guard_bind e
    cases e
    refine ⟨_, _, _, rfl, rfl, rfl, fun t u s Q E q => PyProof.Rows.mod_int' (of_decide_eq_true hz) ?_⟩
    by_cases hj : 0 < j
    · rw [if_pos hj] at q
      rw [Int.fmod_eq_emod_of_nonneg i (by omega)]
      exact q
    · rw [if_neg hj] at q
      exact q
  · cases e
theorem o_pow : OpR X (binaryOp .Pow) (fun x y H Q => RF X.K (prim .pow) [x, y] H Q) := o_int (f := pPow) (fun _ _ => rfl) fun a b r e => by
  unfold pPow at e
  split at e
  · obtain ⟨hz, e⟩ := guard_bind e
    cases e
    rw [Bool.and_eq_true, Bool.and_eq_true, decide_eq_true_iff, decide_eq_true_iff, decide_eq_true_iff] at hz
    exact ⟨_, _, _, rfl, rfl, rfl, fun t u s Q E q => PyProof.Rows.pow_int_small hz.1.1 hz.1.2 hz.2 q⟩
  · cases e
theorem o_shl : OpR X (binaryOp .LShift) (fun x y H Q => RF X.K (prim .shl) [x, y] H Q) := o_int (f := pShl) (fun _ _ => rfl) fun a b r e => by
  unfold pShl at e
  split at e
  · obtain ⟨hz, e⟩ := guard_bind e
    cases e
    rw [Bool.and_eq_true, Bool.and_eq_true, decide_eq_true_iff, decide_eq_true_iff, decide_eq_true_iff] at hz
    exact ⟨_, _, _, rfl, rfl, rfl, fun t u s Q E q => PyProof.Rows.lshift_int_small hz.1.1 hz.1.2 hz.2 q⟩
  · cases e
theorem o_shr : OpR X (binaryOp .RShift) (fun x y H Q => RF X.K (prim .shr) [x, y] H Q) := o_int (f := pShr) (fun _ _ => rfl) fun a b r e => by
  unfold pShr at e
  split at e
  · rename_i i j
    obtain ⟨hz, e⟩ := guard_bind e
    cases e
    refine ⟨_, _, _, rfl, rfl, rfl, fun t u s Q E q => PyProof.Rows.rshift_int (of_decide_eq_true hz) ?_⟩
    rw [Int.fdiv_eq_ediv_of_nonneg i (two_pow_nn _)]
    exact q
  · cases e
theorem o_band : OpR X (binaryOp .BitAnd) (fun x y H Q => RF X.K (prim .band) [x, y] H Q) := o_int (f := pAnd) (fun _ _ => rfl) fun a b r e => by
  unfold pAnd at e
  split at e
  · cases e
    exact ⟨_, _, _, rfl, rfl, rfl, fun t u s Q E q => PyProof.Rows.and_int q⟩
  · cases e
theorem u_neg : UnR X (unaryOp .USub) (fun x H Q => RF X.K (prim .neg) [x] H Q) := by
  intro pins s σ H x v Q I rx h
  obtain ⟨Φ, ds, r, sb, hd, e, ql, qs⟩ := h
  obtain ⟨d1, rfl, h1⟩ := hd.one
  have e : pNeg d1 = .ok r := e
  unfold pNeg at e
  split at e
  · cases e
    cases h1.int
    exact un_neg pins s σ H _ v Q I rx ⟨_, rfl, qs (fun _ z => nomatch z) _ _ _ (.refl sb) (.int _)⟩
  · cases e

/-! ### comparisons -/
mutual
theorem plain_of {K : PySem.W.Frag} {H : Hp} : ∀ {v : V} {d : D}, Dp K H v d → d.plain = true
  | _, _, .non => by simp [PyData.plain]
  | _, _, .bl b => by simp [PyData.plain]
  | _, _, .int i => by simp [PyData.plain]
  | _, _, .str x => by simp [PyData.plain]
  | _, _, .lst h r => by simp only [PyData.plain]; exact plainAll_of r
  | _, _, .tup h r => by simp only [PyData.plain]; exact plainAll_of r
theorem plainAll_of {K : PySem.W.Frag} {H : Hp} : ∀ {vs : List V} {ds : List D}, DpAll K H vs ds → PyData.plainAll ds = true
  | _, _, .nil => by simp [PyData.plainAll]
  | _, _, .cons h r => by simp only [PyData.plainAll, Bool.and_eq_true]; exact ⟨plain_of h, plainAll_of r⟩
end
theorem dOk_room {a b : D} {n k : Nat} (hu : n + 200 < cLine) (h : dOk a b = true) (hk : k ≤ 64) : n + k + min a.depth b.depth < cLine := by
  have := of_decide_eq_true h
  omega
/-- a comparison of data, by its truth value -/
theorem c_cmp {o : CmpOp} {op : Pr} {f : D → D → Res Bool} (hp : ∀ a b, prim op [a, b] = (f a b >>= fun r => pure (.bool r)))
    (hf : ∀ a b k, f a b = .ok k → ∀ (pins : List (Addr × Obj)) (s : Shared) (σ : St) (H : Hp) (x y : V) (v u : Value), Inv X pins σ H s → RelV x v → RelV y u → Dp X.K H x a → Dp X.K H y b →
      ∀ (Q : Value → Shared → Prop) (E : Value → Shared → Prop), Q (.bool k) s → wpAny (model X.prog X.w) X.A (compareOp o v u) Q E s) :
    OpR X (compareOp o) (fun x y H Q => RF X.K (prim op) [x, y] H Q) := by
  intro pins s σ H x y v u Q I rx ry h
  obtain ⟨Φ, ds, r, sb, hd, e, ql, qs⟩ := h
  obtain ⟨d1, d2, rfl, h1, h2⟩ := hd.two
  rw [hp] at e
  obtain ⟨k, e1, e2⟩ := Res.bind_eq_ok.mp e
  cases e2
  exact hf _ _ _ e1 pins s σ H x y v u I rx ry (h1.dp sb) (h2.dp sb) _ _ ⟨.bl k, H, I, rfl, qs (fun _ z => nomatch z) _ _ _ (.refl sb) (.bl _)⟩
theorem c_eq (hu : X.A.units + 200 < cLine) : OpR X (compareOp .Eq) (fun x y H Q => RF X.K (prim .eq) [x, y] H Q) := c_cmp (f := eqD) (fun _ _ => rfl) fun a b k e pins s σ H x y v u I rx ry h1 h2 Q E q => by
  obtain ⟨hz, e⟩ := guard_bind e
  cases e
  obtain ⟨as, r1⟩ := Dp.reads I a x v h1 rx
  obtain ⟨bs, r2⟩ := Dp.reads I b y u h2 ry
  exact PySem.SeqAt.eq_plain r1 r2 (plain_of h1) (plain_of h2) (dOk_room (k := 0) hu hz (by decide)) q
theorem c_ne (hu : X.A.units + 200 < cLine) : OpR X (compareOp .NotEq) (fun x y H Q => RF X.K (prim .ne) [x, y] H Q) :=
  c_cmp (f := fun a b => eqD a b >>= fun r => pure (!r)) (fun a b => by show (eqD a b >>= _) = _; cases eqD a b <;> rfl) fun a b k e pins s σ H x y v u I rx ry h1 h2 Q E q => by
  obtain ⟨k', e1, e2⟩ := Res.bind_eq_ok.mp e
  cases e2
  obtain ⟨hz, e⟩ := guard_bind e1
  cases e
  obtain ⟨as, r1⟩ := Dp.reads I a x v h1 rx
  obtain ⟨bs, r2⟩ := Dp.reads I b y u h2 ry
  exact PySem.SeqAt.ne_plain r1 r2 (plain_of h1) (plain_of h2) (dOk_room (k := 0) hu hz (by decide)) q
theorem notNone {a : D} (h : (!isNn a) = true) : a ≠ .none := by
  intro z
  subst z
  cases h
theorem c_lt (hu : X.A.units + 200 < cLine) : OpR X (compareOp .Lt) (fun x y H Q => RF X.K (prim .lt) [x, y] H Q) := c_cmp (f := ltD) (fun _ _ => rfl) fun a b k e pins s σ H x y v u I rx ry h1 h2 Q E q => by
  unfold ltD at e
  split at e
  · cases e
    cases h1
    cases h2
    obtain ⟨t, rfl⟩ := rx
    obtain ⟨t', rfl⟩ := ry
    exact PyProof.Rows.lt_int q
  · obtain ⟨hz, e⟩ := guard_bind e
    cases e
    rw [Bool.and_eq_true, Bool.and_eq_true] at hz
    obtain ⟨as, r1⟩ := Dp.reads I a x v h1 rx
    obtain ⟨bs, r2⟩ := Dp.reads I b y u h2 ry
    exact PySem.W.lt_data r1 r2 hz.1.1 (notNone hz.1.2) (dOk_room (k := 0) hu hz.2 (by decide)) q
theorem c_gt (hu : X.A.units + 200 < cLine) : OpR X (compareOp .Gt) (fun x y H Q => RF X.K (prim .gt) [x, y] H Q) := c_cmp (f := fun a b => ltD b a) (fun _ _ => rfl) fun a b k e pins s σ H x y v u I rx ry h1 h2 Q E q => by
  unfold ltD at e
  split at e
  · cases e
    cases h1
    cases h2
    obtain ⟨t, rfl⟩ := rx
    obtain ⟨t', rfl⟩ := ry
    exact PyProof.Rows.gt_int q
  · obtain ⟨hz, e⟩ := guard_bind e
    cases e
    rw [Bool.and_eq_true, Bool.and_eq_true] at hz
    obtain ⟨as, r1⟩ := Dp.reads I a x v h1 rx
    obtain ⟨bs, r2⟩ := Dp.reads I b y u h2 ry
    have al := hz.1.1
    have nn := PySem.W.ne_none_both al (notNone hz.1.2)
    rw [PySem.W.alike_comm] at al
    have rm := dOk_room (k := 0) hu hz.2 (by decide)
    rw [Nat.min_comm] at rm
    exact PySem.W.gt_data r1 r2 al nn rm q
theorem c_le (hu : X.A.units + 200 < cLine) : OpR X (compareOp .LtE) (fun x y H Q => RF X.K (prim .le) [x, y] H Q) := c_cmp (f := leD) (fun _ _ => rfl) fun a b k e pins s σ H x y v u I rx ry h1 h2 Q E q => by
  unfold leD at e
  split at e
  · cases e
    cases h1
    cases h2
    obtain ⟨t, rfl⟩ := rx
    obtain ⟨t', rfl⟩ := ry
    exact PyProof.Rows.le_int q
  · obtain ⟨hz, e⟩ := guard_bind e
    cases e
    rw [Bool.and_eq_true, Bool.and_eq_true] at hz
    obtain ⟨as, r1⟩ := Dp.reads I a x v h1 rx
    obtain ⟨bs, r2⟩ := Dp.reads I b y u h2 ry
    exact PySem.W.le_data r1 r2 hz.1.1 (notNone hz.1.2) (dOk_room (k := 0) hu hz.2 (by decide)) q
theorem c_ge (hu : X.A.units + 200 < cLine) : OpR X (compareOp .GtE) (fun x y H Q => RF X.K (prim .ge) [x, y] H Q) := c_cmp (f := fun a b => leD b a) (fun _ _ => rfl) fun a b k e pins s σ H x y v u I rx ry h1 h2 Q E q => by
  unfold leD at e
  split at e
  · cases e
    cases h1
    cases h2
    obtain ⟨t, rfl⟩ := rx
    obtain ⟨t', rfl⟩ := ry
    exact PyProof.Rows.ge_int q
  · obtain ⟨hz, e⟩ := guard_bind e
    cases e
    rw [Bool.and_eq_true, Bool.and_eq_true] at hz
    obtain ⟨as, r1⟩ := Dp.reads I a x v h1 rx
    obtain ⟨bs, r2⟩ := Dp.reads I b y u h2 ry
    have al := hz.1.1
    have nn := PySem.W.ne_none_both al (notNone hz.1.2)
    rw [PySem.W.alike_comm] at al
    have rm := dOk_room (k := 0) hu hz.2 (by decide)
    rw [Nat.min_comm] at rm
    exact PySem.W.ge_data r1 r2 al nn rm q
theorem inOk_room {ys : List D} {x : D} {n : Nat} (hu : n + 200 < cLine) (h : inOk ys x = true) : n + 1 + min (PyData.depthAll ys) x.depth < cLine := by
  have := of_decide_eq_true h
  omega
theorem c_in (hu : X.A.units + 200 < cLine) : OpR X (compareOp .In) (fun x y H Q => RF X.K (prim .isin) [x, y] H Q) := c_cmp (f := inD) (fun _ _ => rfl) fun a b k e pins s σ H x y v u I rx ry h1 h2 Q E q => by
  unfold inD at e
  split at e
  · obtain ⟨hz, e⟩ := guard_bind e
    cases e
    obtain ⟨as, r1⟩ := Dp.reads I _ x v h1 rx
    obtain ⟨bs, r2⟩ := Dp.reads I _ y u h2 ry
    have pl := plain_of h2
    simp only [PyData.plain] at pl
    exact PySem.SeqAt.in_list_data r2 r1 pl (plain_of h1) (inOk_room hu hz) q
  · obtain ⟨hz, e⟩ := guard_bind e
    cases e
    obtain ⟨as, r1⟩ := Dp.reads I _ x v h1 rx
    obtain ⟨bs, r2⟩ := Dp.reads I _ y u h2 ry
    have pl := plain_of h2
    simp only [PyData.plain] at pl
    exact PySem.SeqAt.in_tuple_data r2 r1 pl (plain_of h1) (inOk_room hu hz) q
  · cases e
    cases h1
    cases h2
    obtain ⟨t, rfl⟩ := rx
    obtain ⟨t', rfl⟩ := ry
    exact PyProof.Rows.in_str q
  · cases e
theorem c_notin (hu : X.A.units + 200 < cLine) : OpR X (compareOp .NotIn) (fun x y H Q => RF X.K (prim .notin) [x, y] H Q) :=
  c_cmp (f := fun a b => inD a b >>= fun r => pure (!r)) (fun a b => by show (inD a b >>= _) = _; cases inD a b <;> rfl) fun a b k e pins s σ H x y v u I rx ry h1 h2 Q E q => by
  obtain ⟨k', e1, e2⟩ := Res.bind_eq_ok.mp e
  cases e2
  unfold inD at e1
  split at e1
  · obtain ⟨hz, e⟩ := guard_bind e1
    cases e
    obtain ⟨as, r1⟩ := Dp.reads I _ x v h1 rx
    obtain ⟨bs, r2⟩ := Dp.reads I _ y u h2 ry
    have pl := plain_of h2
    simp only [PyData.plain] at pl
    exact PySem.SeqAt.notIn_list_data r2 r1 pl (plain_of h1) (inOk_room hu hz) q
  · obtain ⟨hz, e⟩ := guard_bind e1
    cases e
    obtain ⟨as, r1⟩ := Dp.reads I _ x v h1 rx
    obtain ⟨bs, r2⟩ := Dp.reads I _ y u h2 ry
    have pl := plain_of h2
    simp only [PyData.plain] at pl
    exact PySem.SeqAt.notIn_tuple_data r2 r1 pl (plain_of h1) (inOk_room hu hz) q
  · cases e1
    cases h1
    cases h2
    obtain ⟨t, rfl⟩ := rx
    obtain ⟨t', rfl⟩ := ry
    exact PyProof.Rows.notIn_str q
  · cases e1
end
end Mir
/-! Mir, part C2: items, slices, built-in calls. -/
namespace Mir
open PySem PySem.Spec L2
section
variable {X : Cx}
/-! ### items and slices -/
theorem ixOf_eq (n : Nat) (i : Int) : ixOf n i = ixN n i := rfl
theorem at_dp {K : PySem.W.Frag} {Φ : Hp} {vs : List V} {ds : List D} {i : Int} {r : D} (h : DpAll K Φ vs ds) (e : Res.ofO ((ixOf ds.length i).bind fun j => ds[j]?) = .ok r) : ∃ v, atI vs i = some v ∧ Dp K Φ v r := by
  unfold atI
  rw [dpA_len h, ← ixOf_eq]
  cases hj : ixOf ds.length i with
  | none =>
    rw [hj] at e
    cases e
  | some j =>
    rw [hj] at e
    have e' : Res.ofO ds[j]? = .ok r := e
    cases hd : ds[j]? with
    | none =>
      rw [hd] at e'
      cases e'
    | some d =>
      rw [hd] at e'
      cases e'
      exact dpA_get h hd
theorem ix_ok : IxR X (fun x y H Q => RP X.K (prim .idx) [x, y] H Q) := by
  intro value slice pins s σ H x y v u Q I rx ry h hs
  obtain ⟨Φ, ds, r, sb, hd, e, qs⟩ := h
  obtain ⟨d1, d2, rfl, h1, h2⟩ := hd.two
  have e : pIdx d1 d2 = .ok r := e
  unfold pIdx at e
  split at e
  · cases h2.int
    obtain ⟨a, vs, rfl, sx, dx⟩ := h1.list sb
    obtain ⟨w, ha, hw⟩ := at_dp dx e
    exact ix_seq value slice pins s σ H _ _ v u Q I rx ry (.inl ⟨a, vs, _, w, rfl, rfl, sx, ha, qs _ _ _ (.refl sb) hw⟩) hs
  · cases h2.int
    obtain ⟨a, vs, rfl, sx, dx⟩ := h1.tuple
    obtain ⟨w, ha, hw⟩ := at_dp dx e
    exact ix_seq value slice pins s σ H _ _ v u Q I rx ry (.inr (.inl ⟨a, vs, _, w, rfl, rfl, sqT_up sb sx, ha, qs _ _ _ (.refl sb) hw⟩)) hs
  · cases h2.int
    cases h1.str
    obtain ⟨hz, e⟩ := guard_bind e
    obtain ⟨c, e1, e2⟩ := Res.bind_eq_ok.mp e
    cases e2
    refine ix_seq value slice pins s σ H _ _ v u Q I rx ry (.inr (.inr ⟨_, _, c, rfl, rfl, fit_le hz, ?_, qs _ _ _ (.refl sb) (.str _)⟩)) hs
    unfold atI
    rw [← ixOf_eq]
    revert e1
    generalize Option.bind _ _ = o
    intro e1
    cases o with
    | none => cases e1
    | some c' =>
      cases e1
      rfl
  · cases e
theorem sIx_lo (n : Nat) (o : Option Int) : HT.sIx n 0 o = loOf n o := by
  cases o with
  | none => rfl
  | some i =>
    show (if i < 0 then (i + (n : Int)).toNat else min i.toNat n) = if 0 ≤ i then min i.toNat n else (i + (n : Int)).toNat
    by_cases h : 0 ≤ i
    · rw [if_pos h, if_neg (by omega)]
    · rw [if_neg h, if_pos (by omega)]
theorem sIx_hi (n : Nat) (o : Option Int) : HT.sIx n n o = hiOf n o := by
  cases o with
  | none => rfl
  | some i =>
    show (if i < 0 then (i + (n : Int)).toNat else min i.toNat n) = if 0 ≤ i then min i.toNat n else (i + (n : Int)).toNat
    by_cases h : 0 ≤ i
    · rw [if_pos h, if_neg (by omega)]
    · rw [if_neg h, if_pos (by omega)]
theorem cutV_eq (xs : List V) (lo hi : Option Int) : cutV xs lo hi = cutL xs (loOf xs.length lo) (hiOf xs.length hi) := by
  unfold cutV cutL
  rw [sIx_lo, sIx_hi]
theorem dpA_cut {K : PySem.W.Frag} {Φ : Hp} {vs : List V} {ds : List D} (h : DpAll K Φ vs ds) (lo hi : Option Int) : DpAll K Φ (cutV vs lo hi) (cutL ds (loOf ds.length lo) (hiOf ds.length hi)) := by
  rw [cutV_eq, dpA_len h]
  exact dpA_take _ (dpA_drop _ h)
/-- a[lo:hi]: wished of its value -/
def RCut (K : PySem.W.Frag) : V → Option Int → Option Int → Hp → VK → Prop := fun x lo hi H Q => ∃ (Φ : Hp) (d r : D), Same Φ H ∧ DpR K Φ H x d ∧ pCut d lo hi = .ok r ∧
    (∀ rs, r = .list rs → ∀ p ws, H p = none → DpAll K Φ ws rs → Q (.ref p) (upd H p (.lst ws))) ∧ ((∀ rs, r ≠ .list rs) → ∀ Φ' H' w, Grow Φ H Φ' H' → Dp K Φ' w r → Q w H')
theorem sl_ok : SlR X (RCut X.K) := by
  intro pins s σ H x v vl vu lo hi sl Q I rx hs pl pu h
  obtain ⟨Φ, d, r, sb, h1, e, ql, qs⟩ := h
  unfold pCut at e
  split at e
  · cases e
    obtain ⟨a, vs, rfl, sx, dx⟩ := h1.list sb
    exact sl_list pins s σ H _ v vl vu lo hi sl Q I rx hs pl pu ⟨a, vs, rfl, sx, fun p np => ql _ rfl _ _ np (dpA_cut dx lo hi)⟩
  · cases e
    obtain ⟨a, vs, rfl, sx, dx⟩ := h1.tuple
    have q := qs (fun _ z => nomatch z)
    have dc := dpA_cut dx lo hi
    refine sl_tupA pins s σ H _ v vl vu lo hi sl Q I rx hs pl pu ⟨a, vs, rfl, sqT_up sb sx, fun z => ?_, fun _ p np => ?_⟩
    · refine q _ _ _ (.refl sb) (.tup sx ?_)
      have : cutV vs lo hi = vs := by
        unfold cutV
        rw [z.1, z.2, List.drop_zero, Nat.sub_zero, List.take_length]
      rw [this] at dc
      exact dc
    · exact q _ _ _ (.new sb np) (.tup (.inl (.inl upd_same)) (dpA_up (same_new (same_none sb np)) dc))
  · cases e

/-! ### calls of built-ins -/
theorem RF.one {K : PySem.W.Frag} {f : List D → Res D} {vs : List V} {H : Hp} {Q : VK} {x : V} (h : RF K f vs H Q) (e : vs = [x]) : ∃ (Φ : Hp) (d r : D), Same Φ H ∧ DpR K Φ H x d ∧ f [d] = .ok r ∧
    (∀ rs, r = .list rs → ∀ p ws, H p = none → DpAll K Φ ws rs → Q (.ref p) (upd H p (.lst ws))) ∧ ((∀ rs, r ≠ .list rs) → ∀ Φ' H' w, Grow Φ H Φ' H' → Dp K Φ' w r → Q w H') := by
  subst e
  obtain ⟨Φ, ds, r, sb, hd, e, ql, qs⟩ := h
  obtain ⟨d, rfl, hd1⟩ := hd.one
  exact ⟨Φ, d, r, sb, hd1, e, ql, qs⟩
/-- a call with one argument whose answer is no object -/
theorem call1 {f : Value} {op : Pr} (hn : ∀ ds r, prim op ds = .ok r → ∃ d, ds = [d])
    (hf : ∀ d r, prim op [d] = .ok r → ∃ w, (∀ Φ, Dp X.K Φ w r) ∧ (∀ rs, r ≠ .list rs) ∧
      ∀ (pins : List (Addr × Obj)) (s : Shared) (σ : St) (H : Hp) (x : V) (v : Value) (Q : VK), Inv X pins σ H s → RelV x v → Dp X.K H x d → Q w H → wpAny (model X.prog X.w) X.A (call f [v]) (EP X pins σ Q) X.xe s) :
    CallR X f (RF X.K (prim op)) := by
  intro pins s σ H xs us Q I r h
  obtain ⟨Φ, ds, r', sb, hd, e, ql, qs⟩ := h
  obtain ⟨d, rfl⟩ := hn _ _ e
  cases hd with
  | cons a b =>
    cases b
    obtain ⟨u, rfl, rx⟩ := vals1 r
    obtain ⟨w, hw, hnl, rule⟩ := hf _ _ e
    exact rule pins s σ H _ u Q I rx (a.dp sb) (qs hnl _ _ _ (.refl sb) (hw _))
theorem prim_one {op : Pr} {f : D → Res D} (h : ∀ a, prim op [a] = f a) (h0 : prim op [] = .bad) (h2 : ∀ a b c, prim op (a :: b :: c) = .bad) : ∀ ds r, prim op ds = .ok r → ∃ d, ds = [d] := fun ds r e => by
  match ds with
  | [] => rw [h0] at e; cases e
  | [d] => exact ⟨d, rfl⟩
  | a :: b :: c => rw [h2] at e; cases e
theorem k_len : CallR X (.builtin "len") (RF X.K (prim .len)) := call1 (prim_one (fun _ => rfl) rfl fun _ _ _ => rfl) fun d r e => by
  have e : pLen d = .ok r := e
  unfold pLen at e
  split at e
  · cases e
    refine ⟨.int _, fun _ => .int _, fun _ z => (nomatch z), fun pins s σ H x v Q I rx h q => ?_⟩
    cases h with
    | lst hs ha => exact call_len pins s σ H [_] [v] Q I (.cons rx .nil) ⟨_, _, rfl, .inl ⟨_, hs, (dpA_len ha).symm⟩, q⟩
  · cases e
    refine ⟨.int _, fun _ => .int _, fun _ z => (nomatch z), fun pins s σ H x v Q I rx h q => ?_⟩
    cases h with
    | tup hs ha => exact call_len pins s σ H [_] [v] Q I (.cons rx .nil) ⟨_, _, rfl, .inr ⟨_, hs, (dpA_len ha).symm⟩, q⟩
  · obtain ⟨hz, e⟩ := guard_bind e
    cases e
    refine ⟨.int _, fun _ => .int _, fun _ z => (nomatch z), fun pins s σ H x v Q I rx h q => ?_⟩
    cases h
    exact call_len pins s σ H [_] [v] Q I (.cons rx .nil) ⟨_, _, rfl, ⟨fit_le hz, rfl⟩, q⟩
  · cases e
theorem k_int : CallR X (.type "int") (RF X.K (prim .int)) := call1 (prim_one (fun _ => rfl) rfl fun _ _ _ => rfl) fun d r e => by
  have e : pInt d = .ok r := e
  unfold pInt at e
  split at e
  · cases e
    refine ⟨.int _, fun _ => .int _, fun _ z => (nomatch z), fun pins s σ H x v Q I rx h q => ?_⟩
    cases h
    exact call_int1 pins s σ H [_] [v] Q I (.cons rx .nil) (.inl ⟨_, rfl, q⟩)
  · cases e
    refine ⟨.int _, fun _ => .int _, fun _ z => (nomatch z), fun pins s σ H x v Q I rx h q => ?_⟩
    cases h
    exact call_int1 pins s σ H [_] [v] Q I (.cons rx .nil) (.inr ⟨_, rfl, q⟩)
  · obtain ⟨hz, e⟩ := guard_bind e
    obtain ⟨n, hn, e⟩ := Res.bind_eq_ok.mp e
    cases e
    refine ⟨.int _, fun _ => .int _, fun _ z => (nomatch z), fun pins s σ H x v Q I rx h q => ?_⟩
    cases h
    refine call_int_str pins s σ H [_] [v] Q I (.cons rx .nil) ⟨_, n, rfl, ?_, of_decide_eq_true hz, q⟩
    cases hi : PySem.intText? _ with
    | none => rw [hi] at hn; cases hn
    | some m => rw [hi] at hn; cases hn; rfl
  · cases e
theorem k_str : CallR X (.type "str") (RF X.K (prim .str)) := call1 (prim_one (fun _ => rfl) rfl fun _ _ _ => rfl) fun d r e => by
  have e : pStr d = .ok r := e
  unfold pStr at e
  split at e
  · obtain ⟨hz, e⟩ := guard_bind e
    cases e
    refine ⟨.str _, fun _ => .str _, fun _ z => (nomatch z), fun pins s σ H x v Q I rx h q => ?_⟩
    cases h
    exact call_str_int pins s σ H [_] [v] Q I (.cons rx .nil) ⟨_, rfl, of_decide_eq_true hz, q⟩
  · cases e
theorem k_abs : CallR X (.builtin "abs") (RF X.K (prim .abs)) := call1 (prim_one (fun _ => rfl) rfl fun _ _ _ => rfl) fun d r e => by
  have e : pAbs d = .ok r := e
  unfold pAbs at e
  split at e
  · cases e
    refine ⟨.int _, fun _ => .int _, fun _ z => (nomatch z), fun pins s σ H x v Q I rx h q => ?_⟩
    cases h
    exact call_abs pins s σ H [_] [v] Q I (.cons rx .nil) ⟨_, rfl, q⟩
  · cases e
mutual
theorem noDict {K : PySem.W.Frag} {H : Hp} : ∀ {v : V} {d : D}, Dp K H v d → d.hasDict = false
  | _, _, .non => by simp [PyData.hasDict]
  | _, _, .bl b => by simp [PyData.hasDict]
  | _, _, .int i => by simp [PyData.hasDict]
  | _, _, .str x => by simp [PyData.hasDict]
  | _, _, .lst h r => by simp only [PyData.hasDict]; exact noDictAll r
  | _, _, .tup h r => by simp only [PyData.hasDict]; exact noDictAll r
theorem noDictAll {K : PySem.W.Frag} {H : Hp} : ∀ {vs : List V} {ds : List D}, DpAll K H vs ds → PyData.hasDictAll ds = false
  | _, _, .nil => by simp [PyData.hasDictAll]
  | _, _, .cons h r => by simp only [PyData.hasDictAll, Bool.or_eq_false_iff]; exact ⟨noDict h, noDictAll r⟩
end
theorem k_repr (hg : X.A.guards = some []) (hu : X.A.units + 200 < cLine) : CallR X (.builtin "repr") (RF X.K (prim .repr)) := call1 (prim_one (fun _ => rfl) rfl fun _ _ _ => rfl) fun d r e => by
  have e : pRepr d = .ok r := e
  obtain ⟨hz, e⟩ := guard_bind e
  cases e
  unfold showOk at hz
  rw [Bool.and_eq_true, Bool.and_eq_true, decide_eq_true_iff] at hz
  refine ⟨.str _, fun _ => .str _, fun _ z => (nomatch z), fun pins s σ H x v Q I rx h q => ?_⟩
  have hl := fit_le hz.2
  have big : ∀ a, v = .ref a → wpAny (model X.prog X.w) X.A (call (.builtin "repr") [v]) (EP X pins σ Q) X.xe s := by
    intro a ea
    subst ea
    obtain ⟨as, rd⟩ := Dp.reads I d x _ h rx
    have nd := noDict h
    exact repr_of_reads' rd hz.1.1 (fun z => by rw [nd] at z; cases z) hg (by have := hz.1.2; omega) (fun _ _ q => q) (fun h' u tk hk => ⟨.str _, H, I.kept hk, ⟨_, rfl⟩, q⟩) hl
  cases h with
  | non =>
    cases rx
    have q : Q (.str "None") H := by simpa only [PyData.shown] using q
    exact PySem.P.repr_of_none ⟨.str _, H, I.tok _, ⟨_, rfl⟩, q⟩
  | bl b =>
    cases rx
    have q : Q (.str (if b then "True" else "False")) H := by simpa only [PyData.shown] using q
    exact PySem.P.repr_of_bool ⟨.str _, H, I.tok _, ⟨_, rfl⟩, q⟩
  | int i =>
    obtain ⟨t, rfl⟩ := rx
    have q : Q (.str (toString i)) H := by simpa only [PyData.shown] using q
    have hs : i.natAbs.log2 < 1920 := by simpa [PyData.showable] using hz.1.1
    exact PySem.P.repr_of_int hs ⟨.str _, H, I.tok _, ⟨_, rfl⟩, q⟩
  | str z =>
    obtain ⟨t, rfl⟩ := rx
    have q : Q (.str (reprText z)) H := by simpa only [PyData.shown] using q
    have hs : (reprText z).length ≤ sizeLine := by simpa only [PyData.shown] using hl
    exact PySem.P.repr_of_str ⟨.str _, H, I.tok _, ⟨_, rfl⟩, q⟩ hs
  | lst hs ha =>
    cases rx
    exact big _ rfl
  | tup hs ha =>
    cases rx
    exact big _ rfl
theorem k_tuple : CallR X (.type "tuple") (RF X.K (prim .tuple)) := by
  intro pins s σ H xs us Q I r h
  obtain ⟨Φ, ds, r', sb, hd, e, ql, qs⟩ := h
  obtain ⟨d, rfl⟩ := prim_one (op := .tuple) (fun _ => rfl) rfl (fun _ _ _ => rfl) _ _ e
  cases hd with
  | cons a b =>
    cases b
    have e : (seqOf d >>= fun xs => pure (.tuple xs)) = .ok r' := e
    obtain ⟨ys, e1, e2⟩ := Res.bind_eq_ok.mp e
    cases e2
    have q := qs (fun _ z => nomatch z)
    unfold seqOf at e1
    split at e1
    · cases e1
      obtain ⟨p, vs, rfl, sx, dx⟩ := a.list sb
      exact call_tuple_of pins s σ H _ us Q I r ⟨p, vs, rfl, .inl ⟨sx, fun l nl => q _ _ _ (.new sb nl) (.tup (.inl (.inl upd_same)) (dpA_up (same_new (same_none sb nl)) dx))⟩⟩
    · cases e1
      obtain ⟨p, vs, rfl, sx, dx⟩ := a.tuple
      exact call_tuple_of pins s σ H _ us Q I r ⟨p, vs, rfl, .inr ⟨sqT_up sb sx, q _ _ _ (.refl sb) (.tup sx dx)⟩⟩
    · cases e1
theorem k_list : CallR X (.type "list") (RF X.K (prim .list)) := by
  intro pins s σ H xs us Q I r h
  obtain ⟨Φ, ds, r', sb, hd, e, ql, qs⟩ := h
  obtain ⟨d, rfl⟩ := prim_one (op := .list) (fun _ => rfl) rfl (fun _ _ _ => rfl) _ _ e
  cases hd with
  | cons a b =>
    cases b
    have e : (seqOf d >>= fun xs => pure (.list xs)) = .ok r' := e
    obtain ⟨ys, e1, e2⟩ := Res.bind_eq_ok.mp e
    cases e2
    unfold seqOf at e1
    split at e1
    · cases e1
      obtain ⟨p, vs, rfl, sx, dx⟩ := a.list sb
      exact call_list_of pins s σ H _ us Q I r ⟨p, vs, rfl, .inl sx, fun l nl => ql _ rfl _ _ nl dx⟩
    · cases e1
      obtain ⟨p, vs, rfl, sx, dx⟩ := a.tuple
      exact call_list_of pins s σ H _ us Q I r ⟨p, vs, rfl, .inr (sqT_up sb sx), fun l nl => ql _ rfl _ _ nl dx⟩
    · cases e1
end
end Mir
/-! Mir, part C3: kinds, greatest, least, sums, truths of all. -/
namespace Mir
open PySem PySem.Spec L2
section
variable {X : Cx}
def Kd.name : Kd → String
  | .int => "int"
  | .bool => "bool"
  | .str => "str"
  | .tuple => "tuple"
  | .list => "list"
theorem k_isinst (k : Kd) : CallR X (.builtin "isinstance") (fun vs H Q => ∃ x, vs = [x, .ty k.name] ∧ RF X.K (prim (.isinst k)) [x] H Q) := by
  intro pins s σ H xs us Q I r h
  obtain ⟨x, rfl, h⟩ := h
  obtain ⟨Φ, d, r', sb, hd, e, ql, qs⟩ := h.one rfl
  cases e
  obtain ⟨u, w', rfl, r1, r2⟩ := vals2 r
  have q := qs (fun _ z => (nomatch z)) _ _ (.bl _) (.refl sb) (.bl _)
  obtain ⟨as, rd⟩ := Dp.reads I d x u (hd.dp sb) r1
  have e2 : w' = Value.type k.name := r2
  subst e2
  have fin : ∀ {b : Bool} (tk : Nat), b = isK k d → EP X pins σ Q (.bool b) { s with toks := tk } := fun tk e => by
    rw [e]
    exact ⟨.bl _, H, I.tok _, rfl, q⟩
  cases k with
  | int => exact PySem.W.isinstance_int_data rd fun tk _ => fin tk (by cases d <;> rfl)
  | bool => exact PySem.W.isinstance_bool_data rd fun tk _ => fin tk (by cases d <;> rfl)
  | str => exact PySem.W.isinstance_str_data rd fun tk _ => fin tk (by cases d <;> rfl)
  | tuple => exact PySem.W.isinstance_tuple_data rd fun tk _ => fin tk (by cases d <;> rfl)
  | list => exact PySem.W.isinstance_list_data rd fun tk _ => fin tk (by cases d <;> rfl)

/-- the objects of a list or tuple that is read -/
theorem seq_of {K : PySem.W.Frag} {H : Hp} {x : V} {d : D} {ds : List D} (h : Dp K H x d) (e : seqOf d = .ok ds) : ∃ a vs, x = .ref a ∧ (SqL K H a vs ∨ SqT K H a vs) ∧ DpAll K H vs ds := by
  cases h with
  | lst hs ha =>
    cases e
    exact ⟨_, _, rfl, .inl hs, ha⟩
  | tup hs ha =>
    cases e
    exact ⟨_, _, rfl, .inr hs, ha⟩
  | non => cases e
  | bl _ => cases e
  | int _ => cases e
  | str _ => cases e
theorem intsOf_map : ∀ {ds : List D} {ns : List Int}, intsOf ds = .ok ns → ds = ns.map .int
  | [], _, e => by cases e; rfl
  | d :: r, ns, e => by
    cases d with
    | int i =>
      obtain ⟨l, h1, h2⟩ := Res.bind_eq_ok.mp e
      cases h2
      rw [intsOf_map h1]
      rfl
    | _ => cases e
theorem alike_ints (ns : List Int) : PySem.W.AlikeAll (ns.map .int) := by
  refine ⟨fun x hx y hy => ?_, fun x hx => ?_⟩
  · obtain ⟨i, _, rfl⟩ := List.mem_map.mp hx
    obtain ⟨j, _, rfl⟩ := List.mem_map.mp hy
    simp [PySem.W.alike]
  · obtain ⟨i, _, rfl⟩ := List.mem_map.mp hx
    exact fun z => (nomatch z)
theorem depth_ints : ∀ ns : List Int, PyData.depthAll (ns.map .int) = 0
  | [] => by simp [PyData.depthAll]
  | n :: ns => by
    have := depth_ints ns
    simp [PyData.depthAll, PyData.depth, this]
theorem reads_int {h : Heap} {v : Value} {i : Int} {as : List Addr} (r : Reads h v (.int i) as) : ∃ t, v = .int i t := by
  cases r
  exact ⟨_, rfl⟩
theorem k_max1 (hc : X.calm = true) (hu : X.A.units + 200 < cLine) {pins : List (Addr × Obj)} {s : Shared} {σ : St} {H : Hp} {x : V} {u : Value} {Q : VK} {d : D} {ds : List D} {ns : List Int} {m : Int}
    (I : Inv X pins σ H s) (rx : RelV x u) (h : Dp X.K H x d) (e1 : seqOf d = .ok ds) (e2 : intsOf ds = .ok ns) (e3 : maxI ns = .ok m) (q : Q (.int m) H) : wpAny (model X.prog X.w) X.A (call (.builtin "max") [u]) (EP X pins σ Q) X.xe s := by
  obtain ⟨a, vs, rfl, hs, hd⟩ := seq_of h e1
  cases rx
  cases ns with
  | nil => cases e3
  | cons n ns =>
    cases e3
    have ed := intsOf_map e2
    subst ed
    have fin : ∀ {v : Value} {h' : Heap} {tk : Nat} {bs : List Addr}, Reads h' v (PySem.W.maxD (.int n) (ns.map .int)) bs → (∀ b o, s.heap.get? b = some o → h'.get? b = some o) → EP X pins σ Q v { s with heap := h', toks := tk } := by
      intro v h' tk bs r hk
      rw [PySem.W.maxD_ints] at r
      obtain ⟨t, rfl⟩ := reads_int r
      exact ⟨.int _, H, I.kept hk, ⟨_, rfl⟩, q⟩
    have ha : PySem.W.AlikeAll (PyData.int n :: ns.map .int) := alike_ints (n :: ns)
    have hz : X.A.units + 1 + PyData.depthAll (PyData.int n :: ns.map .int) < cLine := by
      have := depth_ints (n :: ns)
      rw [List.map_cons] at this
      rw [this]
      omega
    rcases hs with hs | hs
    · obtain ⟨its, rv, hl, _⟩ := I.list hs
      obtain ⟨as, rd⟩ := Dp.readsAll I _ vs its hd rv
      exact PySem.W.max_list_data (I.ok.hd hc) hl.isList (by simpa using rd) ha hz fun i v h' tk bs _ r hk => fin r hk
    · obtain ⟨its, rv, ⟨o, ho, hcl, n', hd'⟩, _⟩ := I.tuple hs
      obtain ⟨as, rd⟩ := Dp.readsAll I _ vs its hd rv
      exact PySem.W.max_tuple_data (I.ok.hd hc) ⟨o, ho, hcl, n', hd'⟩ (by simpa using rd) ha hz fun i v h' tk bs _ r hk => fin r hk
theorem k_min1 (hc : X.calm = true) (hu : X.A.units + 200 < cLine) {pins : List (Addr × Obj)} {s : Shared} {σ : St} {H : Hp} {x : V} {u : Value} {Q : VK} {d : D} {ds : List D} {ns : List Int} {m : Int}
    (I : Inv X pins σ H s) (rx : RelV x u) (h : Dp X.K H x d) (e1 : seqOf d = .ok ds) (e2 : intsOf ds = .ok ns) (e3 : minI ns = .ok m) (q : Q (.int m) H) : wpAny (model X.prog X.w) X.A (call (.builtin "min") [u]) (EP X pins σ Q) X.xe s := by
  obtain ⟨a, vs, rfl, hs, hd⟩ := seq_of h e1
  cases rx
  cases ns with
  | nil => cases e3
  | cons n ns =>
    cases e3
    have ed := intsOf_map e2
    subst ed
    have fin : ∀ {v : Value} {h' : Heap} {tk : Nat} {bs : List Addr}, Reads h' v (PySem.W.minD (.int n) (ns.map .int)) bs → (∀ b o, s.heap.get? b = some o → h'.get? b = some o) → EP X pins σ Q v { s with heap := h', toks := tk } := by
      intro v h' tk bs r hk
      rw [PySem.W.minD_ints] at r
      obtain ⟨t, rfl⟩ := reads_int r
      exact ⟨.int _, H, I.kept hk, ⟨_, rfl⟩, q⟩
    have ha : PySem.W.AlikeAll (PyData.int n :: ns.map .int) := alike_ints (n :: ns)
    have hz : X.A.units + 1 + PyData.depthAll (PyData.int n :: ns.map .int) < cLine := by
      have := depth_ints (n :: ns)
      rw [List.map_cons] at this
      rw [this]
      omega
    rcases hs with hs | hs
    · obtain ⟨its, rv, hl, _⟩ := I.list hs
      obtain ⟨as, rd⟩ := Dp.readsAll I _ vs its hd rv
      exact PySem.W.min_list_data (I.ok.hd hc) hl.isList (by simpa using rd) ha hz fun i v h' tk bs _ r hk => fin r hk
    · obtain ⟨its, rv, ⟨o, ho, hcl, n', hd'⟩, _⟩ := I.tuple hs
      obtain ⟨as, rd⟩ := Dp.readsAll I _ vs its hd rv
      exact PySem.W.min_tuple_data (I.ok.hd hc) ⟨o, ho, hcl, n', hd'⟩ (by simpa using rd) ha hz fun i v h' tk bs _ r hk => fin r hk
theorem seqOf_int {i : Int} {ds : List D} (h : seqOf (.int i) = .ok ds) : False := by cases h
theorem k_max (hc : X.calm = true) (hu : X.A.units + 200 < cLine) : CallR X (.builtin "max") (RF X.K (prim .max)) := by
  intro pins s σ H xs us Q I r h
  obtain ⟨Φ, ds, r', sb, hd, e, ql, qs⟩ := h
  have e : pMax ds = .ok r' := e
  unfold pMax at e
  split at e
  · cases e
    cases hd with
    | cons a b =>
      cases b with
      | cons b c =>
        cases c
        cases a.int
        cases b.int
        exact call_max2 hc pins s σ H _ us Q I r ⟨_, _, rfl, qs (fun _ z => nomatch z) _ _ _ (.refl sb) (.int _)⟩
  · obtain ⟨ys, e1, e⟩ := Res.bind_eq_ok.mp e
    obtain ⟨ns, e2, e⟩ := Res.bind_eq_ok.mp e
    obtain ⟨m, e3, e⟩ := Res.bind_eq_ok.mp e
    cases e
    cases hd with
    | cons a b =>
      cases b
      obtain ⟨u, rfl, rx⟩ := vals1 r
      exact k_max1 hc hu I rx (a.dp sb) e1 e2 e3 (qs (fun _ z => nomatch z) _ _ _ (.refl sb) (.int _))
  · cases e
theorem nuMin2_int (i j : Int) : nuMin2 (.int i) (.int j) = some (.int (if j < i then j else i)) := by
  show (some (decide (j < i))).map (fun c => if c = true then V.int j else V.int i) = _
  by_cases h : j < i <;> simp [h]
theorem nuMin3_int (i j k : Int) : nuMin3 (.int i) (.int j) (.int k) = some (.int (if k < (if j < i then j else i) then k else (if j < i then j else i))) := by
  unfold nuMin3
  rw [nuMin2_int]
  exact nuMin2_int _ _
theorem k_min (hc : X.calm = true) (hu : X.A.units + 200 < cLine) : CallR X (.builtin "min") (RF X.K (prim .min)) := by
  intro pins s σ H xs us Q I r h
  obtain ⟨Φ, ds, r', sb, hd, e, ql, qs⟩ := h
  have e : pMin ds = .ok r' := e
  unfold pMin at e
  split at e
  · cases e
    cases hd with
    | cons a b =>
      cases b with
      | cons b c =>
        cases c
        cases a.int
        cases b.int
        exact call_min2 hc pins s σ H _ us Q I r ⟨_, _, rfl, qs (fun _ z => nomatch z) _ _ _ (.refl sb) (.int _)⟩
  · cases e
    cases hd with
    | cons a b =>
      cases b with
      | cons b c =>
        cases c with
        | cons c d =>
          cases d
          cases a.int
          cases b.int
          cases c.int
          exact call_min3Nu hc pins s σ H _ us Q I r ⟨_, _, _, _, rfl, nuMin3_int _ _ _, qs (fun _ z => nomatch z) _ _ _ (.refl sb) (.int _)⟩
  · obtain ⟨ys, e1, e⟩ := Res.bind_eq_ok.mp e
    obtain ⟨ns, e2, e⟩ := Res.bind_eq_ok.mp e
    obtain ⟨m, e3, e⟩ := Res.bind_eq_ok.mp e
    cases e
    cases hd with
    | cons a b =>
      cases b
      obtain ⟨u, rfl, rx⟩ := vals1 r
      exact k_min1 hc hu I rx (a.dp sb) e1 e2 e3 (qs (fun _ z => nomatch z) _ _ _ (.refl sb) (.int _))
  · cases e
theorem k_sum (hc : X.calm = true) : CallR X (.builtin "sum") (RF X.K (prim .sum)) := call1 (prim_one (fun _ => rfl) rfl fun _ _ _ => rfl) fun d r e => by
  have e : pSum d = .ok r := e
  obtain ⟨ys, e1, e⟩ := Res.bind_eq_ok.mp e
  obtain ⟨ns, e2, e⟩ := Res.bind_eq_ok.mp e
  cases e
  refine ⟨.int _, fun _ => .int _, fun _ z => (nomatch z), fun pins s σ H x v Q I rx h q => ?_⟩
  obtain ⟨a, vs, rfl, hs, hd⟩ := seq_of h e1
  have ev := dpA_ints hd e2
  subst ev
  rcases hs with hs | hs
  · exact cr_sum hc pins s σ H [_] [v] Q I (.cons rx .nil) ⟨a, ns, rfl, hs, q⟩
  · cases rx
    obtain ⟨its, rv, ⟨o, ho, hcl, n', hd'⟩, _⟩ := I.tuple hs
    obtain ⟨xs, ex⟩ := rv.ints.allInts.items
    have hn : numsOf (intItems xs).toList = ns := by
      rw [← ex]
      exact rv.ints.numsOf
    rw [nums_intItems] at hn
    rw [ex] at hd'
    refine PySem.W.ktm_sumG (I.ok.hd hc) ⟨o, ho, hcl, n', hd'⟩ fun h' tk t' hk => ?_
    rw [preSum_eq, List.take_of_length_le (by simp), hn]
    exact ⟨.int _, H, I.kept hk, ⟨_, rfl⟩, q⟩
theorem k_all (hc : X.calm = true) : CallR X (.builtin "all") (RF X.K (prim .all)) := call1 (prim_one (fun _ => rfl) rfl fun _ _ _ => rfl) fun d r e => by
  have e : pAll d = .ok r := e
  unfold pAll at e
  split at e
  · obtain ⟨bs, e2, e⟩ := Res.bind_eq_ok.mp e
    cases e
    refine ⟨.bl _, fun _ => .bl _, fun _ z => (nomatch z), fun pins s σ H x v Q I rx h q => ?_⟩
    cases h with
    | lst hs ha =>
      have ev := dpA_bools ha e2
      subst ev
      exact cr_all hc pins s σ H [_] [v] Q I (.cons rx .nil) ⟨_, bs, rfl, hs, q⟩
  · cases e
theorem k_any (hc : X.calm = true) : CallR X (.builtin "any") (RF X.K (prim .any)) := call1 (prim_one (fun _ => rfl) rfl fun _ _ _ => rfl) fun d r e => by
  have e : pAny d = .ok r := e
  unfold pAny at e
  split at e
  · obtain ⟨bs, e2, e⟩ := Res.bind_eq_ok.mp e
    cases e
    refine ⟨.bl _, fun _ => .bl _, fun _ z => (nomatch z), fun pins s σ H x v Q I rx h q => ?_⟩
    cases h with
    | lst hs ha =>
      have ev := dpA_bools ha e2
      subst ev
      exact cr_any hc pins s σ H [_] [v] Q I (.cons rx .nil) ⟨_, bs, rfl, hs, q⟩
  · cases e
end
end Mir
/-! Mir, part C4: x[::-1], sorted. -/
namespace Mir
open PySem PySem.Spec PyProof.Rows HT L2
section
variable {prog : Program} {w : World} {A : Around} {E : Value → Shared → Prop} {s : Shared}
theorem sliceApplied_rev {sl : Addr} {vl vu vs : Value} {n : Nat} {Q : Int × Int × Nat → Shared → Prop} (hs : s.heap.IsSliceOf sl vl vu vs) (pl : IsPart vl none) (pu : IsPart vu none) (ps : IsPart vs (some (-1)))
    (h : Q ((n : Int) - 1, -1, n) s) : wpAny (model prog w) A (Builtin.Slice.sliceApplied (.ref sl) (pure (n : Int))) Q E s := by
  obtain ⟨os, hos, hcs, hds⟩ := id hs
  unfold Builtin.Slice.sliceApplied Builtin.Slice.sliceFields
  refine wpAny_bind (wpAny_bind (wpAny_field hos hds (x := vl) rfl (wpAny_bind (wpAny_field hos hds (x := vu) rfl (wpAny_bind (wpAny_field hos hds (x := vs) rfl (wpAny_pure ?_)))))))
  refine wpAny_bind (slicePart_ ps ?_)
  show wpAny _ _ (if ((-1 : Int) == 0) = true then _ else _) _ _ s
  rw [if_neg (by decide)]
  refine wpAny_bind (slicePart_ pl (wpAny_bind (slicePart_ pu (wpAny_bind (wpAny_pure ?_)))))
  show wpAny _ _ (match Builtin.Slice.sliceAdjust none none (-1) (n : Int) with | (lo, hi) => pure (lo, (-1 : Int), Builtin.Slice.slicePlaces lo hi (-1))) _ _ s
  have e1 : Builtin.Slice.sliceAdjust none none (-1) (n : Int) = ((n : Int) - 1, -1) := by
    unfold Builtin.Slice.sliceAdjust
    simp
  rw [e1]
  show wpAny _ _ (pure ((n : Int) - 1, (-1 : Int), Builtin.Slice.slicePlaces ((n : Int) - 1) (-1) (-1))) _ _ s
  have e2 : Builtin.Slice.slicePlaces ((n : Int) - 1) (-1) (-1) = n := by
    unfold Builtin.Slice.slicePlaces
    simp only [show ¬ ((-1 : Int) > 0) by decide, if_false]
    split
    · simp only [Int.neg_neg, Int.ediv_one]
      omega
    · omega
  rw [e2]
  exact wpAny_pure h
theorem filterMap_same {α β : Type} {f g : α → Option β} : ∀ {l : List α}, (∀ a ∈ l, f a = g a) → l.filterMap f = l.filterMap g
  | [], _ => rfl
  | a :: l, h => by
    rw [List.filterMap_cons, List.filterMap_cons, h a (List.mem_cons_self ..), filterMap_same fun b hb => h b (List.mem_cons_of_mem _ hb)]
theorem pick_rev (xs : List Value) : ((List.range xs.length).filterMap fun (m : Nat) => xs.toArray[(((xs.length : Int) - 1) + (m : Int) * (-1)).toNat]?).toArray = xs.reverse.toArray := by
  congr 1
  have e : ∀ m ∈ List.range xs.length, xs.toArray[(((xs.length : Int) - 1) + (m : Int) * (-1)).toNat]? = some (xs.reverse.getD m .none) := by
    intro m hm
    have hm := List.mem_range.mp hm
    have : (((xs.length : Int) - 1) + (m : Int) * (-1)).toNat = xs.length - 1 - m := by omega
    rw [this, List.getElem?_toArray, List.getD_eq_getElem?_getD, List.getElem?_reverse hm, List.getElem?_eq_getElem (by omega)]
    rfl
  have e2 : (List.range xs.length).filterMap (fun (m : Nat) => xs.toArray[(((xs.length : Int) - 1) + (m : Int) * (-1)).toNat]?) = (List.range xs.length).filterMap (fun m => some (xs.reverse.getD m .none)) := filterMap_same e
  rw [e2, List.filterMap_eq_map']
  apply List.ext_getElem?
  intro i
  rw [List.getElem?_map]
  by_cases hi : i < xs.length
  · rw [List.getElem?_range hi, List.getElem?_eq_getElem (by rw [List.length_reverse]; exact hi)]
    show some (xs.reverse.getD i .none) = _
    rw [List.getD_eq_getElem?_getD, List.getElem?_eq_getElem (by rw [List.length_reverse]; exact hi)]
    rfl
  · rw [List.getElem?_eq_none (by rw [List.length_range]; omega), List.getElem?_eq_none (by rw [List.length_reverse]; omega)]
    rfl
theorem getItem_tuple_rev {t sl : Addr} {xs : List Value} {vl vu vs : Value} {Q : Value → Shared → Prop} (ht : IsTup s.heap t xs.toArray) (hs : s.heap.IsSliceOf sl vl vu vs) (pl : IsPart vl none) (pu : IsPart vu none) (ps : IsPart vs (some (-1)))
    (h : Q (.ref s.heap.objs.size) { s with heap := s.heap.push { cls := .type "tuple", data := .seq xs.reverse.toArray } })
    (hsz : xs.length ≤ sizeLine) : wpAny (model prog w) A (getItem (.ref t) (.ref sl)) Q E s := by
  have htake : sizeOk (.seq xs.reverse.toArray) := by
    show xs.reverse.toArray.size ≤ sizeLine
    rw [List.size_toArray, List.length_reverse]
    exact hsz
  obtain ⟨os, hos, hcs, hds⟩ := id hs
  have hTs : s.TypeIs (.ref sl) "slice" := ⟨os, hos, hcs⟩
  unfold getItem
  try with_reducible refine wpAny_holding ?_
  first | refine wpAny_bind (wpAny_pure ?_) | skip
  refine wpAny_bind (wpAny_sequenceKey ht.typeIs (by decide) ?_)
  refine wpAny_bind (wpAny_callSpecial?_slot (name := Str.ofString "__getitem__") ht.typeIs PyProof.Rows.slot_tuple_getitem
    (wpAny_call_entry PyProof.Rows.slot_tuple_getitem ht.typeIs entry_tuple_getitem ?_ (args_tuple_getitem _ _)))
  show wpAny _ _ (Builtin.Tuple.tupleItemsOf (.ref t) >>= _) _ _ s
  refine wpAny_bind (tupleItemsOf_ ht ?_)
  refine wpAny_bind (wpAny_typeOf hTs ?_)
  rw [if_pos (by decide)]
  show wpAny _ _ (Builtin.Slice.sliceApplied (.ref sl) (pure (xs.toArray.size : Int)) >>= _) _ _ s
  rw [List.size_toArray]
  refine wpAny_bind (sliceApplied_rev hs pl pu ps ?_)
  show wpAny _ _ (if (((xs.length : Int) - 1) == 0 && (-1 : Int) == 1 && xs.length == xs.toArray.size) = true then _ else _) _ _ s
  rw [if_neg (by simp), pick_rev]
  first
    | exact wpAny_bind (m := Builtin.Tuple.tupleExact _) (wpAny_newObj_type (wpAny_pure ⟨_, rfl, wpAny_pure h⟩) htake)
    | exact wpAny_bind (m := Builtin.Tuple.tupleExact _) (wpAny_newObj_type (wpAny_bind (wpAny_pure (wpAny_pure ⟨_, rfl, wpAny_pure h⟩))) htake)
    | exact wpAny_bind (wpAny_bind (m := Builtin.Tuple.tupleExact _) (wpAny_newObj_type (wpAny_pure (wpAny_pure ⟨_, rfl, wpAny_pure h⟩)) htake))
    | exact wpAny_bind (wpAny_bind (m := Builtin.Tuple.tupleExact _) (wpAny_newObj_type (wpAny_pure ⟨_, rfl, wpAny_pure h⟩) htake))
end
section
variable {X : Cx}
theorem pe_rev {e : Expr} {te : TE} {k : Nat} {p1 p2 p3 pos : Pos} (he : PE X e te) : PE X (.Subscript e (.Slice none none (some (.UnaryOp .USub (.Constant (.int 1) k p1) p2)) p3) pos) (fun σ H Q => te σ H fun x H1 => RF X.K (prim .rev) [x] H1 Q) := by
  refine ⟨fun pins s σ H Q I h => ?_⟩
  refine Subscript_ (thn (he.run pins s σ H _ I h) fun v s1 ⟨x, H1, I1, r1, q1⟩ => ?_)
  obtain ⟨Φ, ds, r', sb, hd, e', ql, qs⟩ := q1
  obtain ⟨d, rfl, hd1⟩ := hd.one
  have e' : pRev d = .ok r' := e'
  have hst : PO X (some (.UnaryOp .USub (.Constant (.int 1) k p1) p2)) (tPart (tUn (rU fun i => .int (-i)) (tC (.int 1)))) := po_some (pe_un un_neg pe_int)
  refine wpAny_Slice (thn (po_none.run pins s1 σ H1 (fun o H2 => o = none ∧ H2 = H1) I1 ⟨rfl, rfl⟩) fun vl s2 ⟨l, H2, I2, pl, el, e2⟩ => ?_)
  subst el e2
  refine thn (po_none.run pins s2 σ H2 (fun o H3 => o = none ∧ H3 = H2) I2 ⟨rfl, rfl⟩) fun vu s3 ⟨u, H3, I3, pu, eu, e3⟩ => ?_
  subst eu e3
  refine thn (hst.run pins s3 σ H3 (fun o H4 => o = some (-1) ∧ H4 = H3) I3 ⟨1, rfl, -1, rfl, rfl, rfl⟩) fun vs s4 ⟨o, H4, I4, ps, eo, e4⟩ => ?_
  subst eo e4
  have I5 : Inv X pins σ H4 { s4 with heap := s4.heap.push { cls := .type "slice", data := .fields #[vl, vu, vs] } } := I4.kept (t' := s4.toks) fun b ob q => Heap.get?_push_of_some _ q
  unfold pRev at e'
  split at e'
  · cases e'
    obtain ⟨a, xs, rfl, hx, dx⟩ := hd1.list sb
    cases r1
    obtain ⟨its, r, ht, hz⟩ := I5.list hx
    have hlen := r.length
    show wpAny (model X.prog X.w) X.A (subscriptTail e (.Slice none none (some (.UnaryOp .USub (.Constant (.int 1) k p1) p2)) p3) (.ref a) (.ref s4.heap.objs.size)) (EP X pins σ Q) X.xe { s4 with heap := s4.heap.push { cls := .type "slice", data := .fields #[vl, vu, vs] } }
    refine tail_any (ops := [.ref a, .ref s4.heap.objs.size]) ht.isList.typeIs (PySem.slot_list_getitem.lookup) ?_ (by with_unfolding_all rfl)
    refine wpAny_getItem_list_slice ht.isList (Heap.IsSliceOf.new _ vl vu vs) pl pu ps (by decide) ?_ (by rw [List.size_toArray]; omega)
    rw [PySem.W.krv_pick]
    refine ⟨.ref _, _, I5.laid (t' := s4.toks) (o := .lst xs.reverse) (fun b ob q => Heap.get?_push_of_some _ q) (Nat.le_refl _) ?_, rfl, ql _ rfl _ _ (I5.hok.fresh (Nat.le_refl _)) (dpA_rev dx)⟩
    exact ⟨by rw [List.length_reverse]; exact hz, _, 0, r.reverse, Heap.get?_push_size _ rfl⟩
  · cases e'
    obtain ⟨a, xs, rfl, hx, dx⟩ := hd1.tuple
    cases r1
    obtain ⟨its, r, ht, hz⟩ := I5.tuple (sqT_up sb hx)
    have hlen := r.length
    have q := qs (fun _ z => nomatch z)
    show wpAny (model X.prog X.w) X.A (subscriptTail e (.Slice none none (some (.UnaryOp .USub (.Constant (.int 1) k p1) p2)) p3) (.ref a) (.ref s4.heap.objs.size)) (EP X pins σ Q) X.xe { s4 with heap := s4.heap.push { cls := .type "slice", data := .fields #[vl, vu, vs] } }
    refine tail_any (ops := [.ref a, .ref s4.heap.objs.size]) ht.typeIs (PyProof.Rows.slot_tuple_getitem.lookup) ?_ (by with_unfolding_all rfl)
    refine getItem_tuple_rev ht (Heap.IsSliceOf.new _ vl vu vs) pl pu ps ?_ (by omega)
    refine ⟨.ref _, _, I5.laid (t' := s4.toks) (o := .tup xs.reverse) (fun b ob q => Heap.get?_push_of_some _ q) (Nat.le_refl _) ?_, rfl, ?_⟩
    · exact ⟨by rw [List.length_reverse]; exact hz, _, r.reverse, _, Heap.get?_push_size _ rfl, rfl, _, rfl⟩
    · have np2 := I5.hok.fresh (a := { s4 with heap := s4.heap.push { cls := .type "slice", data := .fields #[vl, vu, vs] } }.heap.objs.size) (Nat.le_refl _)
      exact q _ _ _ (.new sb np2) (.tup (.inl (.inl upd_same)) (dpA_up (same_new (same_none sb np2)) (dpA_rev dx)))
  · cases e'
end

/-! ### sorted -/
section
variable {prog : Program} {w : World} {A : Around} {E : Value → Shared → Prop} {s : Shared}
theorem collect_tup {l : Addr} {vs : List Value} {Q : List Value → Shared → Prop} (hl : IsTup s.heap l vs.toArray)
    (h : Q vs { s with heap := (s.heap.push (seqObj "list" #[] 0)).update s.heap.objs.size (Obj.mapSeq (· ++ vs.toArray)) }) (hsz : vs.length ≤ sizeLine) :
    wpAny (model prog w) A (collect (.ref l)) Q E s := by
  obtain ⟨o, ho, hc, n, hd⟩ := id hl
  unfold collect
  refine wpAny_bind (wpAny_runValue (codeAny_builtin entry_proto_collect' ?_))
  show wpAny _ _ (do again (.builtin "list.__iadd__" ⟨[← newList [], .ref l], []⟩)) _ _ s
  refine wpAny_bind (wpAny_newList (wpAny_pure ⟨Code.quiet_builtin _ (by decide +kernel), codeAny_builtin entry_list_iadd' ?_⟩))
  show wpAny _ _ (Builtin.List.listExtendWith (.ref s.heap.objs.size) (.ref l) (.ref s.heap.objs.size)) _ _ { s with heap := s.heap.push (seqObj "list" #[] 0) }
  unfold Builtin.List.listExtendWith
  have ho' : (s.heap.push (seqObj "list" #[] 0)).get? l = some o := Heap.get?_push_of_some _ ho
  refine wpAny_bind (wpAny_typeOf (T := "tuple") ⟨o, ho', hc⟩ ?_)
  have ht : (Value.type "tuple" == Value.type "tuple") = true := by rfl
  rw [if_pos (by rw [ht]; simp)]
  refine wpAny_bind (listItems_at ho' hd ?_)
  refine wpAny_bind (listItems_at (xs := #[]) (n := 0) (Heap.get?_push_size _ rfl) rfl ?_)
  rw [if_neg (by simp)]
  refine wpAny_bind (listUpdate_at (xs := #[]) (n := 0) (Heap.get?_push_size _ rfl) rfl ?_ (Nat.zero_le _) (by show (#[] ++ vs.toArray).size ≤ sizeLine + 1; simp only [Array.size_append, List.size_toArray, List.length_nil]; omega))
  refine wpAny_pure ?_
  show wpAny (model prog w) A (do
      let o ← load s.heap.objs.size
      match o.data with
      | .seq xs _ => pure xs.toList
      | _ => unsupported "internal:collect") Q E { s with heap := (s.heap.push (seqObj "list" #[] 0)).update s.heap.objs.size (Obj.mapSeq (· ++ vs.toArray)) }
  refine wpAny_bind (wpAny_load (get?_update_seq (Heap.get?_push_size _ rfl) _) ?_)
  show wpAny _ _ (pure ((#[] : Array Value) ++ vs.toArray).toList) Q E _
  rw [show ((#[] : Array Value) ++ vs.toArray).toList = vs by simp]
  exact wpAny_pure h
open PySem.W PySem.Calls in
theorem sorted_of_sortT {l : Addr} {vs : List Value} {Q : Value → Shared → Prop} (hl : IsTup s.heap l vs.toArray) (hL : vs.length ≤ sizeLine)
    (body : ∀ E' : Value → Shared → Prop, wpAny (model prog w) A.in1.in1 (Builtin.«list.sort» ⟨[.ref (s.heap.objs.size + 1)], []⟩) (fun f s' => f = .done (.ret .none) ∧ Q (.ref (s.heap.objs.size + 1)) s') E' { s with heap := copyHeap s.heap vs }) :
    wpAny (model prog w) A (call (.builtin "sorted") [.ref l]) Q E s := by
  refine call_function_entry_kw kind_sorted plain_sorted entry_sorted (args_sorted1 _) ?_
  unfold Builtin.«sorted»
  refine wpAny_bind (m := checkCount "sorted" 1 1 _) (wpAny_pure ?_)
  refine wpAny_bind (collect_tup hl ?_ hL)
  refine wpAny_bind (wpAny_newList ?_ hL)
  have hsz : ((s.heap.push (seqObj "list" #[] 0)).update s.heap.objs.size (Obj.mapSeq (· ++ vs.toArray))).objs.size = s.heap.objs.size + 1 := by
    rw [Heap.size_update, size_push']
  show wpAny _ _ _ _ _ { s with heap := copyHeap s.heap vs }
  rw [hsz]
  refine wpAny_bind (wpAny_holding (wpAny_call_entry_kw slot_list_sort ⟨_, copyHeap_at s.heap vs, rfl⟩ entry_list_sort ?body (args_list_sort _)))
  case body =>
    show wpAny (model prog w) A.in1.in1 (Builtin.«list.sort» ⟨[.ref (s.heap.objs.size + 1)], []⟩) _ _ _
    refine wpAny_mono (body _) (fun f s' hf => ?_) fun _ _ e => e
    obtain ⟨rfl, hq⟩ := hf
    exact ⟨_, rfl, wpAny_pure ⟨_, rfl, hq⟩⟩
open PySem.W PySem.Calls in
theorem sorted_dataT {β : Type} {vs : List Value} {bs : List β} {enc : β → PyData} {R : Value → β → Prop} {l : Addr} {Q : Value → Shared → Prop} (hl : IsTup s.heap l vs.toArray) (e : EachIs R vs bs) (er : EachIs (fun v b => ∃ as, Reads s.heap v (enc b) as) vs bs) (hal : AllAlike (bs.map enc)) (hk : Sortable (bs.map enc)) (hL : bs.length ≤ sizeLine)
    (hu : ∀ b, b ∈ bs → A.units + 2 + (enc b).depth < cLine) (h : ∀ out, out.length = bs.length → EachIs R out (bs.mergeSort (dataLe false enc)) → Q (.ref (s.heap.objs.size + 1)) { s with heap := sortedAll s.heap vs (List.toArray out) }) :
    wpAny (model prog w) A (call (.builtin "sorted") [.ref l]) Q E s := by
  have er' : EachIs (fun v b => ∃ as, Reads (sortingHeap (copyHeap s.heap vs) (s.heap.objs.size + 1) vs) v (enc b) as) vs bs := er.mono fun _ _ ⟨as, r⟩ => ⟨as, PyProof.Rows.Reads.keeps (fun _ _ => sorting_copy_old) r⟩
  have hL' : vs.length ≤ sizeLine := by rw [e.length]; exact hL
  exact sorted_of_sortT hl hL' fun _ => list_sort_vals (s := { s with heap := copyHeap s.heap vs }) (copyHeap_at s.heap vs) (SortsAt.data (s := { s with heap := sortingHeap (copyHeap s.heap vs) (s.heap.objs.size + 1) vs }) (each_map (R := fun v d => ∃ as, Reads (sortingHeap (copyHeap s.heap vs) (s.heap.objs.size + 1) vs) v d as) enc er') hal hk (bound_map hu)) hL'
    ⟨rfl, h _ (by rw [sortVals_length false rfl]; exact e.length) (sortVals_data false e er' hal)⟩
end

theorem each_back {K : PySem.W.Frag} {Φ : Hp} : ∀ {out : List Value} {ds : List D}, PySem.W.EachIs (fun v d => ∃ x, RelV x v ∧ Dp K Φ x d) out ds → ∃ ws, Vals ws out ∧ DpAll K Φ ws ds
  | _, _, .nil => ⟨[], .nil, .nil⟩
  | _, _, .cons ⟨x, r, h⟩ e => by
    obtain ⟨ws, a, b⟩ := each_back e
    exact ⟨x :: ws, .cons r a, .cons h b⟩
theorem each_of {K : PySem.W.Frag} {Φ : Hp} : ∀ {vs : List V} {its : List Value} {ds : List D}, Vals vs its → DpAll K Φ vs ds → PySem.W.EachIs (fun v d => ∃ x, RelV x v ∧ Dp K Φ x d) its ds
  | _, _, _, .nil, .nil => .nil
  | _, _, _, .cons r a, .cons h b => .cons ⟨_, r, h⟩ (each_of a b)
theorem each_reads {h : Heap} : ∀ {its : List Value} {ds : List D} {as : List Addr}, ReadsAll h its ds as → PySem.W.EachIs (fun v d => ∃ as, Reads h v (id d) as) its ds
  | _, _, _, .nil => .nil
  | _, _, _, .cons r a => .cons ⟨_, r⟩ (each_reads a)
theorem sortOk_ok {ds : List D} (h : sortOk ds = true) : PySem.W.AllAlike (ds.map id) ∧ PySem.W.Sortable (ds.map id) ∧ PyData.depthAll ds ≤ 100 ∧ ds.length ≤ sizeLine := by
  unfold sortOk at h
  simp only [Bool.and_eq_true, Bool.or_eq_true, List.all_eq_true, decide_eq_true_eq] at h
  obtain ⟨⟨⟨h1, h2⟩, h3⟩, h4⟩ := h
  rw [List.map_id]
  refine ⟨fun a ha b hb => h1 a ha b hb, ?_, h3, fit_le h4⟩
  rcases h2 with h2 | h2
  · refine .inl fun d hd => ?_
    have := h2 d hd
    unfold isTup1 at this
    split at this
    · exact ⟨_, _, rfl⟩
    · cases this
  · refine .inr fun d hd => ?_
    have := h2 d hd
    constructor
    · rintro rfl
      cases this
    · rintro xs rfl
      cases this
theorem depth_in : ∀ {ds : List D} {d : D}, d ∈ ds → d.depth ≤ PyData.depthAll ds
  | x :: xs, d, h => by
    simp only [PyData.depthAll]
    rcases List.mem_cons.mp h with rfl | h
    · exact Nat.le_max_left ..
    · exact Nat.le_trans (depth_in h) (Nat.le_max_right ..)
section
variable {X : Cx}
theorem k_sorted (hu : X.A.units + 200 < cLine) : CallR X (.builtin "sorted") (RF X.K (prim .sorted)) := by
  intro pins s σ H xs us Q I r h
  obtain ⟨Φ, ds0, r', sb, hd, e, ql, qs⟩ := h
  obtain ⟨d, rfl⟩ := prim_one (op := .sorted) (fun _ => rfl) rfl (fun _ _ _ => rfl) _ _ e
  cases hd with
  | cons a b =>
    cases b
    have e : (seqOf d >>= fun xs => Res.guard (sortOk xs) >>= fun _ => pure (.list (xs.mergeSort leB))) = .ok r' := e
    obtain ⟨ds, e1, e2⟩ := Res.bind_eq_ok.mp e
    obtain ⟨hso, e3⟩ := guard_bind e2
    cases e3
    obtain ⟨h1, h2, h3, h4⟩ := sortOk_ok hso
    have hle : leB = PySem.W.dataLe false (id : D → D) := by
      rw [PySem.W.dataLe_eq]
      rfl
    have fin : ∀ (its out : List Value), out.length = ds.length → PySem.W.EachIs (fun v d => ∃ x, RelV x v ∧ Dp X.K Φ x d) out (ds.mergeSort (PySem.W.dataLe false id)) → EP X pins σ Q (.ref (s.heap.objs.size + 1)) { s with heap := sortedAll s.heap its (List.toArray out) } := by
      intro its out ho he
      rw [← hle] at he
      obtain ⟨ws, w1, w2⟩ := each_back he
      obtain ⟨c, hc⟩ := sortedAll_at s.heap its (List.toArray out)
      have hlen := w1.length
      refine ⟨.ref (s.heap.objs.size + 1), _, I.laid (t' := s.toks) (o := .lst ws) (fun b o q => sortedAll_old q) (Nat.le_succ _) ?_, rfl, ql _ rfl _ _ (I.hok.fresh (Nat.le_succ _)) w2⟩
      exact ⟨by omega, _, c, w1, hc⟩
    have hdep : ∀ b, b ∈ ds → X.A.units + 2 + (id b).depth < cLine := fun b hb => by
      have := depth_in hb
      show _ + b.depth < _
      omega
    obtain ⟨u, rfl, rx⟩ := vals1 r
    unfold seqOf at e1
    split at e1
    · cases e1
      obtain ⟨p, vs, rfl, sx, dx⟩ := a.list sb
      cases rx
      obtain ⟨its, rv, hl, hz⟩ := I.list sx
      obtain ⟨as, rd⟩ := Dp.readsAll I _ vs its (dpA_up sb dx) rv
      exact PySem.W.sorted_data hl.isList (each_of rv dx) (each_reads rd) h1 h2 h4 hdep fun out ho he => fin its out ho he
    · cases e1
      obtain ⟨p, vs, rfl, sx, dx⟩ := a.tuple
      cases rx
      obtain ⟨its, rv, hl, hz⟩ := I.tuple (sqT_up sb sx)
      obtain ⟨as, rd⟩ := Dp.readsAll I _ vs its (dpA_up sb dx) rv
      exact sorted_dataT hl (each_of rv dx) (each_reads rd) h1 h2 h4 hdep fun out ho he => fin its out ho he
    · cases e1
end

end Mir
/-! Mir, part C5: methods of lists and tuples. -/
namespace Mir
open PySem PySem.Spec L2
/-! ### x.count(y), x.index(y) -/
def methOf : Pr → Option Str
  | .cnt => some "count"
  | .ndx => some "index"
  | _ => none
def noSuper : Expr → Bool
  | .Call (.Name _ _) [] [] _ => false
  | _ => true
theorem base_no {o : Expr} (h : noSuper o = true) (m : Str) (env : Env) (w : Sem Value) : attributeBase o m env w = w := by
  unfold attributeBase
  split
  · cases h
  · rfl
def MRL (K : PySem.W.Frag) (op : Pr) (x y : V) (H : Hp) (Q : VK) : Prop := ∃ ds dy n, Dp K H x (.list ds) ∧ Dp K H y dy ∧ prim op [.list ds, dy] = .ok (.int n) ∧ Q (.int n) H
def rMth (K : PySem.W.Frag) (op : Pr) : V → List V → Hp → VK → Prop := fun x xs H Q => ∃ y, xs = [y] ∧ MRL K op x y H Q
section
variable {X : Cx}
theorem mt_cntL (hu : X.A.units + 200 < cLine) {pins : List (Addr × Obj)} {s : Shared} {σ : St} {H : Hp} {x y : V} {v u : Value} {Q : VK} (I : Inv X pins σ H s) (rx : RelV x v) (ry : RelV y u) (h : MRL X.K .cnt x y H Q) :
    wpAny (model X.prog X.w) X.A (call (.builtin "list.count") [v, u]) (EP X pins σ Q) X.xe s := by
  obtain ⟨ds, dy, n, hx, hy, e, q⟩ := h
  obtain ⟨xs, e1, e2⟩ := Res.bind_eq_ok.mp (show (seqOf (.list ds) >>= fun xs => Res.guard (inOk xs dy) >>= fun _ => Res.ok (PyData.int ((xs.countP fun z => PyData.eqv z dy : Nat) : Int))) = .ok (.int n) from e)
  cases e1
  obtain ⟨hz, e3⟩ := guard_bind e2
  cases e3
  have pl := plain_of hx
  have py := plain_of hy
  cases hx with
  | lst hs hd =>
    cases rx
    obtain ⟨its, rv, hl, _⟩ := I.list hs
    obtain ⟨as, rd⟩ := Dp.readsAll I _ _ its hd rv
    obtain ⟨bs, rb⟩ := Dp.reads I _ _ _ hy ry
    refine PySem.SeqAt.count_list_data (hl := hl.isList) (by simpa using rd) rb (plainAll_of hd) py (inOk_room hu hz) ?_
    exact ⟨.int _, H, I.tok _, ⟨_, rfl⟩, q⟩
theorem readsAll_at {h : Heap} : ∀ {vs : List Value} {ds : List D} {as : List Addr}, ReadsAll h vs ds as → vs.length = ds.length ∧ ∀ j (h1 : j < vs.length) (h2 : j < ds.length), ∃ bs, Reads h vs[j] ds[j] bs
  | _, _, _, .nil => ⟨rfl, fun j h1 _ => absurd h1 (Nat.not_lt_zero _)⟩
  | _, _, _, .cons r a => by
    obtain ⟨e, f⟩ := readsAll_at a
    refine ⟨by rw [List.length_cons, List.length_cons, e], fun j h1 h2 => ?_⟩
    cases j with
    | zero => exact ⟨_, r⟩
    | succ j => exact f j (Nat.lt_of_succ_lt_succ h1) (Nat.lt_of_succ_lt_succ h2)
theorem plainAll_at : ∀ {ds : List D}, PyData.plainAll ds = true → ∀ j (h : j < ds.length), ds[j].plain = true ∧ ds[j].depth ≤ PyData.depthAll ds
  | d :: ds, h, 0, _ => by
    simp only [PyData.plainAll, Bool.and_eq_true] at h
    simp only [PyData.depthAll]
    exact ⟨h.1, Nat.le_max_left ..⟩
  | d :: ds, h, j + 1, hj => by
    simp only [PyData.plainAll, Bool.and_eq_true] at h
    have := plainAll_at h.2 j (Nat.lt_of_succ_lt_succ hj)
    simp only [PyData.depthAll]
    exact ⟨this.1, Nat.le_trans this.2 (Nat.le_max_right ..)⟩
theorem idx_bool : ∀ {ds : List D} {p : D → Bool} {j : Nat}, ds.findIdx? p = some j → true ∈ ds.map p ∧ (ds.map p).idxOf true = j
  | [], p, j, h => by cases h
  | d :: ds, p, j, h => by
    rw [List.findIdx?_cons] at h
    cases hp : p d with
    | true =>
      rw [hp] at h
      cases h
      rw [List.map_cons, hp]
      exact ⟨List.mem_cons_self .., List.idxOf_cons_self⟩
    | false =>
      rw [hp] at h
      simp only [Bool.false_eq_true, if_false] at h
      cases h2 : ds.findIdx? p with
      | none => rw [h2] at h; cases h
      | some k =>
        rw [h2] at h
        cases h
        obtain ⟨a, b⟩ := idx_bool h2
        rw [List.map_cons, hp]
        refine ⟨List.mem_cons_of_mem _ a, ?_⟩
        rw [List.idxOf_cons, b]
        rfl
theorem items_eq {A : Around} {s : Shared} {vs : List Value} {ds : List D} {as bs : List Addr} {u : Value} {dy : D} (rd : ReadsAll s.heap vs ds as) (rb : Reads s.heap u dy bs) (pl : PyData.plainAll ds = true) (py : dy.plain = true) (hu : A.units + min (PyData.depthAll ds) dy.depth < cLine) :
    SeqAt.ItemsEq A s vs (ds.map fun z => PyData.eqv z dy) u true := by
  obtain ⟨e, f⟩ := readsAll_at rd
  refine ⟨by rw [List.length_map]; exact e, fun j h1 h2 => ?_⟩
  have h3 : j < ds.length := by rwa [List.length_map] at h2
  obtain ⟨cs, r⟩ := f j h1 h3
  obtain ⟨p1, p2⟩ := plainAll_at pl j h3
  have := SeqAt.eqAt_plain ds[j] dy A s vs[j] u cs bs r rb p1 py (by omega)
  rw [List.getElem_map]
  have e2 : decide (PyData.eqv ds[j] dy = true) = PyData.eqv ds[j] dy := by cases PyData.eqv ds[j] dy <;> rfl
  rw [e2]
  exact this
theorem ndx_ok {ds : List D} {d dy : D} {n : Int} (hs : seqOf d = .ok ds) (e : prim .ndx [d, dy] = .ok (.int n)) : inOk ds dy = true ∧ ds.length ≤ sizeLine ∧ ∃ j : Nat, ds.findIdx? (fun z => PyData.eqv z dy) = some j ∧ n = j := by
  obtain ⟨xs, e1, e2⟩ := Res.bind_eq_ok.mp (show (seqOf d >>= fun xs => Res.guard (inOk xs dy && fitN xs.length) >>= fun _ => Res.ofO (xs.findIdx? fun z => PyData.eqv z dy) >>= fun j => Res.ok (PyData.int (j : Int))) = .ok (.int n) from e)
  rw [hs] at e1
  cases e1
  obtain ⟨hz, e3⟩ := guard_bind e2
  rw [Bool.and_eq_true] at hz
  obtain ⟨j, e4, e5⟩ := Res.bind_eq_ok.mp e3
  cases e5
  refine ⟨hz.1, fit_le hz.2, j, ?_, rfl⟩
  cases h : ds.findIdx? (fun z => PyData.eqv z dy) with
  | none => rw [h] at e4; cases e4
  | some k =>
    rw [h] at e4
    cases e4
    rfl
theorem mt_ndxL (hu : X.A.units + 200 < cLine) {pins : List (Addr × Obj)} {s : Shared} {σ : St} {H : Hp} {x y : V} {v u : Value} {Q : VK} (I : Inv X pins σ H s) (rx : RelV x v) (ry : RelV y u) (h : MRL X.K .ndx x y H Q) :
    wpAny (model X.prog X.w) X.A (call (.builtin "list.index") [v, u]) (EP X pins σ Q) X.xe s := by
  obtain ⟨ds, dy, n, hx, hy, e, q⟩ := h
  obtain ⟨hz, hl2, j, hj, rfl⟩ := ndx_ok (ds := ds) rfl e
  have py := plain_of hy
  obtain ⟨k1, k2⟩ := idx_bool hj
  cases hx with
  | lst hs hd =>
    cases rx
    obtain ⟨its, rv, hl, _⟩ := I.list hs
    obtain ⟨as, rd⟩ := Dp.readsAll I _ _ its hd rv
    obtain ⟨bs, rb⟩ := Dp.reads I _ _ _ hy ry
    have hr := inOk_room hu hz
    refine SeqAt.call_list_index hl.isList (items_eq rd rb (plainAll_of hd) py (by show X.A.units + 1 + _ < cLine; exact hr)) (by rw [List.length_map]; exact hl2) k1 ?_
    rw [k2]
    exact ⟨.int _, H, I.tok _, ⟨_, rfl⟩, q⟩
def methId : Pr → String
  | .cnt => "list.count"
  | _ => "list.index"
theorem mt_meth {op : Pr} {m : Str} (hu : X.A.units + 200 < cLine) (hm : methOf op = some m) : MtR X (methId op) (rMth X.K op) := by
  intro pins s σ H x xs v us Q I rx rs h
  obtain ⟨y, rfl, h⟩ := h
  obtain ⟨u, rfl, ry⟩ := vals1 rs
  cases op <;> cases hm
  · exact mt_cntL hu I rx ry h
  · exact mt_ndxL hu I rx ry h
theorem pe_mth {op : Pr} {m : Str} {o e : Expr} {to : TE} {t : TA} {apos cpos : Pos} (hu : X.A.units + 200 < cLine) (hm : methOf op = some m) (hb : noSuper o = true) (hl : (apos.endLine == cpos.line) = true) (hs : starEach [e] X.env = (false, eval e X.env) :: starEach [] X.env) (ho : PE X o to) (ha : PA X [e] t) :
    PE X (.Call (.Attribute o m apos) [e] [] cpos) (tBM X.K "list" (rMth X.K op) to t) := by
  have hr := mt_meth (X := X) hu hm
  cases op <;> cases hm
  · exact pe_bm PySem.F.plainAttrs_list PySem.F.slot_list_count PySem.F.type_list_count hr ho ha (hbase := base_no hb _ X.env _) (hfew := by rw [hs]; rfl) (hline := hl) (hs := hs) (hplain := rfl)
  · exact pe_bm PySem.F.plainAttrs_list PySem.F.slot_list_index PySem.F.type_list_index hr ho ha (hbase := base_no hb _ X.env _) (hfew := by rw [hs]; rfl) (hline := hl) (hs := hs) (hplain := rfl)
end
end Mir
/-! Mir, part C6: sets put in order or counted, texts, truths by what they are. -/
namespace Mir
open PySem PySem.Spec L2
/-! ### lists without doubles -/
theorem nub_mem {α : Type} [DecidableEq α] : ∀ {l : List α} {x : α}, x ∈ nub l ↔ x ∈ l
  | [], x => Iff.rfl
  | y :: l, x => by
    unfold nub
    split
    · rename_i h
      rw [nub_mem, List.mem_cons]
      exact ⟨.inr, fun z => z.elim (fun e => e ▸ h) id⟩
    · rw [List.mem_cons, List.mem_cons, nub_mem]
theorem nub_nodup {α : Type} [DecidableEq α] : ∀ l : List α, (nub l).Nodup
  | [] => List.nodup_nil
  | y :: l => by
    unfold nub
    split
    · exact nub_nodup l
    · rename_i h
      exact List.nodup_cons.mpr ⟨fun z => h (nub_mem.mp z), nub_nodup l⟩
theorem nub_perm {α : Type} [DecidableEq α] {l m : List α} (h : m.Nodup) (e : ∀ x, x ∈ m ↔ x ∈ l) : m.Perm (nub l) := (List.perm_ext_iff_of_nodup h (nub_nodup l)).mpr fun x => by rw [e, nub_mem]
/-! ### pairs -/
theorem prs_dp {K : PySem.W.Frag} {Φ : Hp} : ∀ {vs : List V} {ds : List D} {ks : List (Int × Int)}, DpAll K Φ vs ds → prsOf ds = .ok ks →
    ∃ L : List (Addr × List Int), vs = L.map (fun p => V.ref p.1) ∧ L.map (·.2) = ks.map (fun k => [k.1, k.2]) ∧ (∀ p ∈ L, SqT K Φ p.1 (p.2.map V.int)) ∧ ∀ k ∈ ks, 0 ≤ k.1 ∧ 0 ≤ k.2
  | _, _, _, .nil, e => by
    cases e
    exact ⟨[], rfl, rfl, fun p hp => (by cases hp), fun k hk => (by cases hk)⟩
  | _, _, ks, .cons (v := v) (d := d) (ds := ds) h r, e => by
    unfold prsOf at e
    split at e
    · rename_i hx
      cases hx
    · rename_i x i j rr hx
      cases hx
      obtain ⟨hg, e1⟩ := guard_bind e
      obtain ⟨l, h2, e2⟩ := Res.bind_eq_ok.mp e1
      cases e2
      obtain ⟨L, f1, f2, f3, f4⟩ := prs_dp r h2
      simp only [Bool.and_eq_true, decide_eq_true_eq] at hg
      cases h with
      | tup hs ha =>
        rename_i a xs
        cases ha with
        | cons g1 ha =>
          cases ha with
          | cons g2 ha =>
            cases ha
            cases g1
            cases g2
            refine ⟨(a, [i, j]) :: L, by rw [f1]; rfl, by rw [List.map_cons, f2]; rfl, fun p hp => ?_, fun k hk => ?_⟩
            · rcases List.mem_cons.mp hp with rfl | hp
              · exact hs
              · exact f3 p hp
            · rcases List.mem_cons.mp hk with rfl | hk
              · exact hg
              · exact f4 k hk
    · cases e
def leP (p q : Int × Int) : Bool := decide (p.1 < q.1 ∨ (p.1 = q.1 ∧ p.2 ≤ q.2))
theorem leB_encP (p q : Int × Int) : leB (encP p) (encP q) = leP p q := by
  unfold leB encP leP
  rw [PySem.W.dataLt_ii, Bool.eq_iff_iff]
  simp only [decide_eq_true_eq, Bool.not_eq_true', decide_eq_false_iff_not]
  omega
theorem sort_encP (l : List (Int × Int)) : (l.map encP).mergeSort leB = (l.mergeSort leP).map encP := (List.map_mergeSort fun p _ q _ => (leB_encP p q).symm).symm
/-- what stands in order is what is put in order -/
theorem sortP_is {l m : List (Int × Int)} (p : m.Perm l) (h : m.Pairwise fun a b => leP a b = true) : l.mergeSort leP = m := by
  have h1 : (l.mergeSort leP).Pairwise fun a b => leP a b = true := List.pairwise_mergeSort (fun a b c h1 h2 => by
    unfold leP at h1 h2 ⊢
    simp only [decide_eq_true_eq] at h1 h2 ⊢
    omega) (fun a b => by
    unfold leP
    simp only [Bool.or_eq_true, decide_eq_true_eq]
    omega) l
  refine List.Perm.eq_of_pairwise ?_ h1 h ((List.mergeSort_perm ..).trans p.symm)
  intro a b _ _ h1 h2
  unfold leP at h1 h2
  simp only [decide_eq_true_eq] at h1 h2
  exact Prod.ext (by omega) (by omega)
theorem code2 (B x y : Int) : TS.code B [x, y] = x * B + y := by
  show x * B ^ 1 + (y * B ^ 0 + 0) = _
  rw [Int.pow_succ, Int.pow_zero, Int.one_mul, Int.mul_one, Int.add_zero]
theorem code_le {B x y x' y' : Int} (h : TS.code B [x, y] ≤ TS.code B [x', y']) (b1 : 0 ≤ y ∧ y < B) (b2 : 0 ≤ y' ∧ y' < B) : leP (x, y) (x', y') = true := by
  rw [code2, code2] at h
  unfold leP
  simp only [decide_eq_true_eq]
  rcases Int.lt_trichotomy x x' with c | c | c
  · exact .inl c
  · subst c
    exact .inr ⟨rfl, by omega⟩
  · have : (x' + 1) * B ≤ x * B := Int.mul_le_mul_of_nonneg_right (by omega) (by omega)
    rw [Int.add_mul, Int.one_mul] at this
    omega
def topP (ks : List (Int × Int)) : Int := ks.foldr (fun k t => k.1 + k.2 + t) 1
theorem topP_pos : ∀ {ks : List (Int × Int)}, (∀ k ∈ ks, 0 ≤ k.1 ∧ 0 ≤ k.2) → 1 ≤ topP ks
  | [], _ => Int.le_refl 1
  | k :: ks, h => by
    have h1 := topP_pos (ks := ks) fun x hx => h x (List.mem_cons_of_mem _ hx)
    have h2 := h k List.mem_cons_self
    show 1 ≤ k.1 + k.2 + topP ks
    omega
theorem topP_lt : ∀ {ks : List (Int × Int)}, (∀ k ∈ ks, 0 ≤ k.1 ∧ 0 ≤ k.2) → ∀ k ∈ ks, k.1 < topP ks ∧ k.2 < topP ks
  | k0 :: ks, h, k, hk => by
    have h1 := topP_pos (ks := ks) fun x hx => h x (List.mem_cons_of_mem _ hx)
    have h2 := h k0 List.mem_cons_self
    show k.1 < k0.1 + k0.2 + topP ks ∧ k.2 < k0.1 + k0.2 + topP ks
    rcases List.mem_cons.mp hk with rfl | hk
    · omega
    · have := topP_lt (ks := ks) (fun x hx => h x (List.mem_cons_of_mem _ hx)) k hk
      omega
end Mir
namespace L2
open PySem PySem.Spec PyProof.Rows
section
variable {P : Program} {w : World} {A : Around} {E : Value → Shared → Prop} {s : Shared}
/-- a new set without things -/
abbrev newSet (w : World) : Obj := { cls := .type "set", dict := none, data := .set #[] 0 (.fresh 0 0 (!w.params.followText "set-order")) }
set_option maxHeartbeats 3200000 in
/-- set(xs), xs a tuple of tuples of whole numbers -/
theorem set_of_tuple {l : Addr} {items : Array Value} (ks : List (Addr × List Int)) {Q : Value → Shared → Prop} (hh : A.handled = none) (hl : s.heap.IsTuple l items) (hit : items.toList = ks.map fun p => Value.ref p.1)
    (hk : ∀ p ∈ ks, IsT P w s.heap p.2 p.1) (hfew : ks.length < 64) (hu : A.units + 3 < cLine)
    (h : ∀ (h' : Heap) (tk : Nat) L es ep t, SetTR P w h' s.heap.objs.size L es ep t → Got ks ks.length L → (∀ b o, s.heap.get? b = some o → h'.get? b = some o) → Q (.ref s.heap.objs.size) { s with heap := h', toks := tk }) :
    wpAny (model P w) A (call (.type "set") [.ref l]) Q E s := by
  have size_is : items.size = ks.length := by rw [← Array.length_toList, hit, List.length_map]
  have ⟨c, tl, hmro⟩ := F.called_set.mro
  have hmade := F.called_set.made; have hsub := F.called_set.sub
  refine wpAny_call (codeAny_of_tree ?_); show wpAny _ _ (callAny (.type "set") _) _ _ _
  refine wpAny_pure ⟨Code.quiet_builtin _ (by decide +kernel), codeAny_builtin F.entry_type_call ?_⟩
  rw [Around.under_plain (weight_type_call_type "set" [.ref l] []) rfl]
  have h1 := F.called_set.notType; have h2 := F.called_set.canCreate; have hct := F.typeCall_set_1 (.ref l)
  repeat (any_goals (first | assumption | wp_step))
  refine codeAny_mono (code_set_led1 (.ref l) (E := E) (Q₁ := fun obj s₁ => obj = .ref s.heap.objs.size ∧ s₁ = { s with heap := s.heap.push (newSet w) }) ⟨rfl, rfl⟩) fun r s₁ hr => ?_
  cases r with
  | error e => exact hr
  | ok fl =>
    cases fl with
    | ret obj =>
      have ⟨e1, e2⟩ := hr
      subst e1 e2
      have at_ : (s.heap.push (newSet w)).get? s.heap.objs.size = some (newSet w) := Heap.get?_push_size _ rfl
      have hT : Shared.TypeIs { s with heap := s.heap.push (newSet w) } (.ref s.heap.objs.size) "set" := ⟨_, at_, rfl⟩
      have hli := F.called_set.init.lookup; have hbi := F.called_set.init.bind (.ref s.heap.objs.size)
      repeat (any_goals (first | assumption | wp_step))
      refine codeAny_mono (codeAny_call_builtin (R := wants (fun r s₂ => r = .none ∧ ∃ h' tk L es ep t, s₂ = { s with heap := h', toks := tk } ∧ SetTR P w h' s.heap.objs.size L es ep t ∧ Got ks ks.length L ∧ (∀ b o, s.heap.get? b = some o → h'.get? b = some o)) E) F.called_set.init.plain F.entry_set_init (check_set_init_1 hT ?_)) fun r₂ s₂ hr₂ => ?_
      · have ⟨⟨ocls, odict, odata, oslots⟩, hol, hcl, nl, hdl⟩ := hl
        simp only at hcl hdl
        subst hcl hdl
        have ol2 : (s.heap.push (newSet w)).get? l = some { cls := .type "tuple", dict := odict, data := .seq items nl, slots := oslots } := Heap.get?_push_of_some _ hol
        have n1 := F.sub_tuple_set; have n2 := F.sub_tuple_frozenset
        have n3 : (Value.type "tuple" == Value.type "dict") = false := by decide
        have tup2 : (s.heap.push (newSet w)).IsTuple l items := ⟨_, ol2, rfl, nl, rfl⟩
        unfold Builtin.«set.__init__» noKeywords Builtin.Frozenset.updateFrom
        generalize hPI : pyIter = PI
        wp_walk
        subst hPI
        refine wpAny_pyIter_tuple tup2 (wpAny_bind (wpAny_runValue ?_))
        have old : l < s.heap.objs.size := Heap.lt_size hol
        have calm3 : A.in1.in1.in1.handled = none := by simp [hh]
        have apart : l ≠ (s.heap.push (newSet w)).objs.size := by rw [Heap.size_push]; exact Nat.ne_of_lt (Nat.lt_succ_of_lt old)
        have outside : s.heap.objs.size ∉ [(s.heap.push (newSet w)).objs.size, l] := by
          rw [Heap.size_push]; simp only [List.mem_cons, List.not_mem_nil, or_false, not_or]
          exact ⟨Nat.ne_of_lt (Nat.lt_succ_self _), Nat.ne_of_gt old⟩
        have each : ∀ (i : Nat) (v : Value), items[i]? = some v → ∃ p, ks[i]? = some p ∧ v = .ref p.1 := fun i v hv => by
          rw [← Array.getElem?_toList, hit, List.getElem?_map] at hv
          have ⟨p, e1, e2⟩ := Option.map_eq_some_iff.mp hv
          exact ⟨p, e1, e2.symm⟩
        have free : ∀ b, s.heap.objs.size ≤ b → s.heap.get? b = none := fun b hb => by
          cases q : s.heap.get? b with
          | none => rfl
          | some o => exact absurd (Nat.lt_of_lt_of_le (Heap.lt_size q) hb) (Nat.lt_irrefl _)
        refine set_update_tups ((Walks.tuple calm3 _ l apart items).toS) s.heap.objs.size outside ks size_is hfew each s.heap hk (free _ (Nat.le_refl _)) (fun b hb => free b (by rw [List.mem_singleton.mp hb, Heap.size_push]; exact Nat.le_succ _)) hu (items.size - 0) 0 _ (by omega) (Nat.zero_le _)
          ⟨⟨_, Heap.get?_push_size _ rfl, rfl, rfl⟩, (tup2.push _)⟩ (fun b o e => Heap.get?_push_of_some _ (Heap.get?_push_of_some _ e)) ⟨[], #[], 0, _, setTR_fresh (Heap.get?_push_of_some _ at_), Got.zero ks⟩ fun s' L es ep t hm hS' g' hkp => ?_
        have ⟨h', g2, d', tk', os'⟩ := s'
        have eg : g2 = s.gens := hm.gens; have ed : d' = s.drawn := hm.drawn; have eo : os' = s.os := hm.os
        subst eg ed eo
        rw [size_is] at g'
        refine wpAny_pure ?_
        show wpAny _ _ (ret Value.none) _ _ _
        exact wpAny_pure ⟨rfl, h', tk', L, es, ep, t, rfl, hS', g', hkp⟩
      · cases r₂ with
        | error e => exact hr₂
        | ok fl₂ =>
          cases fl₂ with
          | ret r =>
            have ⟨e1, h', tk, L, es, ep, t, e2, hS', g', hk'⟩ := hr₂
            subst e1 e2
            repeat (any_goals (first | assumption | wp_step))
            exact h _ _ _ _ _ _ hS' g' hk'
          | _ => exact hr₂.elim
    | _ => exact hr.elim
end
end L2
/-! Mir, part C8: sorted(set(x)), len(set(x)); join, split; is of truths. -/
namespace Mir
open PySem PySem.Spec L2
section
variable {X : Cx} {pins : List (Addr × Obj)} {σ : St} {H : Hp} {s : Shared} {Q : VK}
theorem dp_refs {K : PySem.W.Frag} {Φ : Hp} : ∀ {L : List (Addr × List Int)} {ks : List (Int × Int)}, L.map (·.2) = ks.map (fun k => [k.1, k.2]) → (∀ p ∈ L, SqT K Φ p.1 (p.2.map V.int)) → DpAll K Φ (L.map fun p => V.ref p.1) (ks.map encP)
  | [], [], _, _ => .nil
  | [], _ :: _, e, _ => by cases e
  | _ :: _, [], e, _ => by cases e
  | p :: L, k :: ks, e, h => by
    rw [List.map_cons, List.map_cons] at e
    have e1 := (List.cons.inj e).1
    have e2 := (List.cons.inj e).2
    have h1 := h p List.mem_cons_self
    rw [e1] at h1
    exact .cons (.tup h1 (.cons (.int _) (.cons (.int _) .nil))) (dp_refs e2 fun q hq => h q (List.mem_cons_of_mem _ hq))
/-- the set of pairs at a new place, put in order -/
theorem sort_pairs {Φ : Hp} {ks : List (Int × Int)} {L0 L : List (Addr × List Int)} {h' : Heap} {tk : Nat} {es : Array (Int × Value)} {ep : Nat} {t : SetTable} (hc : X.calm = true) (I : Inv X pins σ H s) (sb : Same Φ H)
    (f2 : L0.map (·.2) = ks.map (fun k => [k.1, k.2])) (f3 : ∀ p ∈ L0, SqT X.K Φ p.1 (p.2.map V.int)) (f4 : ∀ k ∈ ks, 0 ≤ k.1 ∧ 0 ≤ k.2)
    (R : SetTR X.prog X.w h' s.heap.objs.size L es ep t) (g : Got L0 L0.length L) (k : ∀ b o, s.heap.get? b = some o → h'.get? b = some o)
    (ql : ∀ p ws, H p = none → DpAll X.K Φ ws (((nub ks).map encP).mergeSort leB) → Q (.ref p) (upd H p (.lst ws))) :
    wpAny (model X.prog X.w) X.A (call (.builtin "sorted") [.ref s.heap.objs.size]) (EP X pins σ Q) X.xe { s with heap := h', toks := tk } := by
  have I2 : Inv X pins σ H { s with heap := h', toks := tk } := I.kept k
  have mem0 : ∀ p ∈ L, p ∈ L0 := fun p hp => List.mem_of_mem_take (g.sub p hp)
  have key : ∀ p ∈ L0, ∃ q ∈ ks, p.2 = [q.1, q.2] := fun p hp => by
    have : p.2 ∈ L0.map (·.2) := List.mem_map.mpr ⟨p, hp, rfl⟩
    rw [f2] at this
    obtain ⟨q, hq, e⟩ := List.mem_map.mp this
    exact ⟨q, hq, e.symm⟩
  refine sorted_setT (d := 2) (B := topP ks) R (I.ok.hd hc) (by decide) (fun p hp => ?_) fun s' p out c L' k' g' o' hp hg hout pm pw => ?_
  · obtain ⟨q, hq, e⟩ := key p (mem0 p hp)
    rw [e]
    refine ⟨rfl, fun m hm => ?_⟩
    have h1 := f4 q hq
    have h2 := topP_lt f4 q hq
    rcases List.mem_cons.mp hm with rfl | hm
    · exact ⟨h1.1, h2.1⟩
    · rcases List.mem_cons.mp hm with rfl | hm
      · exact ⟨h1.2, h2.2⟩
      · cases hm
  · have hfew : L'.length < 64 := by rw [pm.length_eq]; exact R.few
    have hlen : (L'.map fun q => V.ref q.1).length ≤ sizeLine := by rw [List.length_map, sizeLine_eq]; omega
    have hn : H p = none := I2.hok.fresh hp
    have hv : Vals (L'.map fun q => V.ref q.1) out.toList := by rw [hout]; exact vals_of_refs L'
    have J : Inv X pins σ (upd H p (.lst (L'.map fun q => V.ref q.1))) { ({ s with heap := h', toks := tk } : Shared) with heap := s'.heap, gens := s'.gens, drawn := s'.drawn, toks := s'.toks } :=
      I2.call (ch := []) (Un.laid k' hp hn) (I2.hok.laid k' hp ⟨hlen, out.toList, c, hv, hg⟩) (by rw [g']; exact I2.bare) (fun _ z => nomatch z)
    have e : s' = { ({ s with heap := h', toks := tk } : Shared) with heap := s'.heap, gens := s'.gens, drawn := s'.drawn, toks := s'.toks } := by
      cases s'
      cases s
      cases o'
      rfl
    rw [e]
    refine ⟨.ref p, _, J, rfl, ql p _ hn ?_⟩
    -- the keys, as pairs
    let f : Addr × List Int → Int × Int := fun q => (q.2.getD 0 0, q.2.getD 1 0)
    have mem1 : ∀ q ∈ L', q ∈ L0 := fun q hq => mem0 q (pm.mem_iff.mp hq)
    have key2 : ∀ q ∈ L', q.2 = [(f q).1, (f q).2] ∧ f q ∈ ks := fun q hq => by
      obtain ⟨r, hr, e⟩ := key q (mem1 q hq)
      show q.2 = [q.2.getD 0 0, q.2.getD 1 0] ∧ (q.2.getD 0 0, q.2.getD 1 0) ∈ ks
      rw [e]
      exact ⟨rfl, hr⟩
    have nd : (L'.map f).Nodup := by
      have := (pm.map (·.2)).nodup_iff.mpr R.nd
      rw [List.Nodup, List.pairwise_map] at this ⊢
      refine this.imp_of_mem fun {a b} ha hb ne z => ne ?_
      rw [(key2 a ha).1, (key2 b hb).1, z]
    have pmk : (L'.map f).Perm (nub ks) := nub_perm nd fun x => by
      rw [List.mem_map]
      constructor
      · rintro ⟨q, hq, rfl⟩
        exact (key2 q hq).2
      · intro hx
        have : [x.1, x.2] ∈ L0.map (·.2) := by
          rw [f2]
          exact List.mem_map.mpr ⟨x, hx, rfl⟩
        obtain ⟨q, hq, e⟩ := List.mem_map.mp this
        have := g.all q (by rw [List.take_length]; exact hq)
        obtain ⟨r, hr, e2⟩ := List.mem_map.mp this
        refine ⟨r, pm.mem_iff.mpr hr, ?_⟩
        show (r.2.getD 0 0, r.2.getD 1 0) = x
        rw [e2, e]
        rfl
    have srt : (L'.map f).Pairwise fun a b => leP a b = true := by
      rw [List.pairwise_map]
      refine pw.imp_of_mem fun {a b} ha hb hle => ?_
      obtain ⟨e1, m1⟩ := key2 a ha
      obtain ⟨e2, m2⟩ := key2 b hb
      rw [e1, e2] at hle
      exact code_le hle ⟨(f4 _ m1).2, (topP_lt f4 _ m1).2⟩ ⟨(f4 _ m2).2, (topP_lt f4 _ m2).2⟩
    rw [sort_encP, sortP_is pmk srt]
    refine dp_refs ?_ fun q hq => f3 q (mem1 q hq)
    rw [List.map_map]
    exact List.map_congr_left fun q hq => (key2 q hq).1
theorem ints_sorted {S : Int → Bool} {ns ms : List Int} (hs : ms.Pairwise (· < ·)) (hm : ∀ k : Int, k ∈ ms ↔ S k = true) (he : ∀ k, S k = true ↔ k ∈ ns) : (nub ns).mergeSort (fun a b => decide (a ≤ b)) = ms := by
  have p : ms.Perm (nub ns) := nub_perm (hs.imp fun h => Int.ne_of_lt h) fun x => by rw [hm, he]
  have h1 : ((nub ns).mergeSort fun a b => decide (a ≤ b)).Pairwise fun a b => a ≤ b := by
    have := List.pairwise_mergeSort (le := fun a b : Int => decide (a ≤ b)) (fun a b c h1 h2 => by
      simp only [decide_eq_true_eq] at h1 h2 ⊢
      omega) (fun a b => by
      simp only [Bool.or_eq_true, decide_eq_true_eq]
      omega) (nub ns)
    exact this.imp fun h => by simpa using h
  refine List.Perm.eq_of_pairwise ?_ h1 (hs.imp fun h => Int.le_of_lt h) ((List.mergeSort_perm ..).trans p.symm)
  intro a b _ _ h1 h2
  omega
theorem dpA_ofInts {K : PySem.W.Frag} {Φ : Hp} : ∀ ns : List Int, DpAll K Φ (ns.map V.int) (ns.map PyData.int)
  | [] => .nil
  | n :: ns => .cons (.int n) (dpA_ofInts ns)
theorem nub_len {α : Type} [DecidableEq α] : ∀ l : List α, (nub l).length ≤ l.length
  | [] => Nat.le_refl _
  | y :: l => by
    unfold nub
    have := nub_len l
    split
    · rw [List.length_cons]
      omega
    · rw [List.length_cons, List.length_cons]
      omega
/-- the set of whole numbers at a new place, put in order -/
theorem sort_ints {Φ : Hp} {ns : List Int} {h' : Heap} {tk c : Nat} (hc : X.calm = true) (I : Inv X pins σ H s) (h64 : c < 64)
    (R : SetR X.w h' s.heap.objs.size (fun j => decide (j ∈ ns)) c) (k : ∀ b o, s.heap.get? b = some o → h'.get? b = some o)
    (ql : ∀ p ws, H p = none → DpAll X.K Φ ws (((nub ns).mergeSort fun a b => decide (a ≤ b)).map PyData.int) → Q (.ref p) (upd H p (.lst ws))) :
    wpAny (model X.prog X.w) X.A (call (.builtin "sorted") [.ref s.heap.objs.size]) (EP X pins σ Q) X.xe { s with heap := h', toks := tk } := by
  have I2 : Inv X pins σ H { s with heap := h', toks := tk } := I.kept k
  refine sorted_set R (I.ok.hd hc) h64 fun s' p out c' ms k' g' o' hp hg hi hs hm hl => ?_
  have hlen : (ms.map V.int).length ≤ sizeLine := by rw [List.length_map, hl, sizeLine_eq]; omega
  have hn : H p = none := I2.hok.fresh hp
  have J : Inv X pins σ (upd H p (.lst (ms.map V.int))) { ({ s with heap := h', toks := tk } : Shared) with heap := s'.heap, gens := s'.gens, drawn := s'.drawn, toks := s'.toks } :=
    I2.call (ch := []) (Un.laid k' hp hn) (I2.hok.laid k' hp ⟨hlen, out.toList, c', vals_of_ints hi, hg⟩) (by rw [g']; exact I2.bare) (fun _ z => nomatch z)
  have e : s' = { ({ s with heap := h', toks := tk } : Shared) with heap := s'.heap, gens := s'.gens, drawn := s'.drawn, toks := s'.toks } := by
    cases s'
    cases s
    cases o'
    rfl
  rw [e]
  refine ⟨.ref p, _, J, rfl, ql p _ hn ?_⟩
  rw [ints_sorted hs hm fun k => by rw [decide_eq_true_eq]]
  exact dpA_ofInts ms
theorem pe_sortset {a : Expr} {ta : TE} {p p2 q pos : Pos} (hc : X.calm = true) (hu : X.A.units + 200 < cLine) (hg : Gl X "sorted") (hm : X.mg "sorted" = none) (hg2 : Gl X "set") (hm2 : X.mg "set" = none) (ha : PE X a ta)
    (na : starEach [a] X.env = (false, eval a X.env) :: starEach [] X.env) : PE X (.Call (.Name "sorted" p) [.Call (.Name "set" p2) [a] [] q] [] pos) (fun σ H Q => ta σ H fun x H1 => RF X.K (prim .sortset) [x] H1 Q) := by
  refine ⟨fun pins s σ H Q I h => ?_⟩
  refine PyProof.Rows.Call_ (ld_blt I hg hm (u := .builtin "sorted") (by decide +kernel) ?_)
  refine PyProof.Rows.callWith_builtin1 (PyProof.Rows.args_cons ?_ rfl) rfl rfl
  refine PyProof.Rows.Call_ (ld_blt I hg2 hm2 PyProof.Rows.boot_set ?_)
  refine PyProof.Rows.callWith_type1 (PyProof.Rows.args_cons (thn (ha.run pins s σ H _ I h) fun v s1 ⟨x, H1, I1, r1, q1⟩ => PyProof.Rows.args_nil ?_) na) na rfl
  obtain ⟨Φ, d, r, sb, hd, e, ql, qs⟩ := (show RF X.K (prim .sortset) [x] H1 Q from q1).one rfl
  have e : pSortSet d = .ok r := e
  obtain ⟨xs, e1, e2⟩ := Res.bind_eq_ok.mp e
  obtain ⟨hl, e3⟩ := guard_bind e2
  have hl := of_decide_eq_true hl
  by_cases hi : xs.any isI = true
  · rw [if_pos hi] at e3
    obtain ⟨htu, e4⟩ := guard_bind e3
    obtain ⟨ns, h5, e5⟩ := Res.bind_eq_ok.mp e4
    cases e5
    unfold seqOf at e1
    split at e1
    · cases htu
    · cases e1
      obtain ⟨b, vs, rfl, sx, dx⟩ := hd.tuple
      cases r1
      have ev := dpA_ints dx h5
      subst ev
      obtain ⟨its, rv, pl, hz⟩ := I1.tuple (sqT_up sb sx)
      have hls : ns.length < 64 := by
        have := dpA_len dx
        rw [List.length_map] at this
        omega
      refine call_set_tupI ns (I1.ok.hd hc) pl (by simpa using rv.ints) (by unfold scanBound; omega) fun h' tk c R hcl k => ?_
      exact PyProof.Rows.args_nil (sort_ints (Φ := Φ) hc I1 (by omega) R k fun p ws hn hw => ql _ rfl p ws hn hw)
    · cases e1
  · rw [if_neg hi] at e3
    obtain ⟨ks, h5, e5⟩ := Res.bind_eq_ok.mp e3
    cases e5
    have room : X.A.units + 3 < cLine := by omega
    unfold seqOf at e1
    split at e1
    · cases e1
      obtain ⟨b, vs, rfl, sx, dx⟩ := hd.list sb
      cases r1
      obtain ⟨L0, f1, f2, f3, f4⟩ := prs_dp dx h5
      subst f1
      obtain ⟨its, rv, pl, hz⟩ := I1.list sx
      have hls : L0.length < 64 := by
        have := dpA_len dx
        rw [List.length_map] at this
        omega
      refine call_set_tups L0 (I1.ok.hd hc) pl.isList (by simpa using refs_of_vals rv) (fun p hp => I1.isT (sqT_up sb (f3 p hp))) hls room fun h' tk L es ep t R g k => ?_
      exact PyProof.Rows.args_nil (sort_pairs hc I1 sb f2 f3 f4 R g k fun p ws hn hw => ql _ rfl p ws hn hw)
    · cases e1
      obtain ⟨b, vs, rfl, sx, dx⟩ := hd.tuple
      cases r1
      obtain ⟨L0, f1, f2, f3, f4⟩ := prs_dp dx h5
      subst f1
      obtain ⟨its, rv, pl, hz⟩ := I1.tuple (sqT_up sb sx)
      have hls : L0.length < 64 := by
        have := dpA_len dx
        rw [List.length_map] at this
        omega
      refine set_of_tuple L0 (I1.ok.hd hc) pl (by simpa using refs_of_vals rv) (fun p hp => I1.isT (sqT_up sb (f3 p hp))) hls room fun h' tk L es ep t R g k => ?_
      exact PyProof.Rows.args_nil (sort_pairs hc I1 sb f2 f3 f4 R g k fun p ws hn hw => ql _ rfl p ws hn hw)
    · cases e1
/-! ### len(set(x)) -/
theorem first_nodup (val : Nat → Int) : ∀ i, (PyProof.Rows.firstMet val i).Nodup
  | 0 => List.nodup_nil
  | i + 1 => by
    rw [PyProof.Rows.firstMet_succ]
    unfold PyProof.Rows.step_dedup
    split
    · exact first_nodup val i
    · rename_i h
      refine List.nodup_append.mpr ⟨first_nodup val i, List.pairwise_singleton _ _, fun x hx y hy e => h ?_⟩
      cases List.mem_singleton.mp hy
      exact List.any_eq_true.mpr ⟨x, hx, beq_iff_eq.mpr e⟩
theorem first_len (ns : List Int) : (PyProof.Rows.firstMet (fun i => ns.getD i 0) ns.length).length = (nub ns).length := by
  refine (nub_perm (first_nodup _ _) fun x => ?_).length_eq
  have e : (List.range ns.length).map (fun i => ns.getD i 0) = ns := by
    apply List.ext_getElem?
    intro i
    rw [List.getElem?_map]
    by_cases hi : i < ns.length
    · rw [List.getElem?_range hi]
      show some (ns.getD i 0) = ns[i]?
      rw [List.getD_eq_getElem?_getD, List.getElem?_eq_getElem hi]
      rfl
    · rw [List.getElem?_eq_none (by rw [List.length_range]; omega), List.getElem?_eq_none (by omega)]
      rfl
  have h := PyProof.Rows.firstMet_any (fun i => ns.getD i 0) ns.length x
  rw [e] at h
  rw [Bool.eq_iff_iff, List.any_eq_true, List.any_eq_true] at h
  constructor
  · intro hx
    obtain ⟨y, hy, ey⟩ := h.mp ⟨x, hx, beq_self_eq_true x⟩
    exact eq_of_beq ey ▸ hy
  · intro hx
    obtain ⟨y, hy, ey⟩ := h.mpr ⟨x, hx, beq_self_eq_true x⟩
    exact eq_of_beq ey ▸ hy
theorem setR_len {w : World} {h : Heap} {a : Addr} {ns : List Int} {c : Nat} (R : SetR w h a (fun j => decide (j ∈ ns)) c) : c = (nub ns).length := by
  obtain ⟨o, es, ep, t, ho, hex, hd, hg, nd, hm, hb, hf, hn, _⟩ := R
  rw [← hn]
  have := (nub_perm (l := ns) nd fun x => by rw [← hm, decide_eq_true_eq]).length_eq
  rw [List.length_map, Array.length_toList] at this
  exact this
theorem pe_lenset {a : Expr} {ta : TE} {p p2 q pos : Pos} (hc : X.calm = true) (hg : Gl X "len") (hm : X.mg "len" = none) (hg2 : Gl X "set") (hm2 : X.mg "set" = none) (ha : PE X a ta)
    (na : starEach [a] X.env = (false, eval a X.env) :: starEach [] X.env) : PE X (.Call (.Name "len" p) [.Call (.Name "set" p2) [a] [] q] [] pos) (fun σ H Q => ta σ H fun x H1 => RF X.K (prim .lenset) [x] H1 Q) := by
  refine ⟨fun pins s σ H Q I h => ?_⟩
  refine PyProof.Rows.Call_ (ld_blt I hg hm (u := .builtin "len") (by decide +kernel) ?_)
  refine PyProof.Rows.callWith_builtin1 (PyProof.Rows.args_cons ?_ rfl) rfl rfl
  refine PyProof.Rows.Call_ (ld_blt I hg2 hm2 PyProof.Rows.boot_set ?_)
  refine PyProof.Rows.callWith_type1 (PyProof.Rows.args_cons (thn (ha.run pins s σ H _ I h) fun v s1 ⟨x, H1, I1, r1, q1⟩ => PyProof.Rows.args_nil ?_) na) na rfl
  obtain ⟨Φ, d, r, sb, hd, e, ql, qs⟩ := (show RF X.K (prim .lenset) [x] H1 Q from q1).one rfl
  have e : pLenSet d = .ok r := e
  obtain ⟨xs, e1, e2⟩ := Res.bind_eq_ok.mp e
  obtain ⟨ns, h5, e3⟩ := Res.bind_eq_ok.mp e2
  obtain ⟨hl, e4⟩ := guard_bind e3
  have hl := of_decide_eq_true hl
  cases e4
  have hnl := nub_len ns
  have fin : ∀ (h' : Heap) (tk n : Nat), n = (nub ns).length → (∀ b o, s1.heap.get? b = some o → h'.get? b = some o) → (∃ o es ep t, h'.get? s1.heap.objs.size = some o ∧ o.ExactSet ∧ o.data = .set es ep t ∧ t.fits es.size = true ∧ es.size = n) →
      wpAny (model X.prog X.w) X.A (call (.builtin "len") [.ref s1.heap.objs.size]) (EP X pins σ Q) X.xe { s1 with heap := h', toks := tk } := fun h' tk n en k ⟨o, es, ep, t, ho, hex, hd, hf, hn⟩ => by
    have I2 : Inv X pins σ H1 { s1 with heap := h', toks := tk } := I1.kept k
    refine call_len_set ho hex hd hf (by rw [hn]; omega) ⟨.int (n : Nat), H1, I2.tok _, ⟨_, by rw [hn]⟩, ?_⟩
    rw [en]
    exact qs (fun _ z => (nomatch z)) _ _ _ (.refl sb) (.int _)
  unfold seqOf at e1
  split at e1
  · cases e1
    obtain ⟨b, vs, rfl, sx, dx⟩ := hd.list sb
    cases r1
    have ev := dpA_ints dx h5
    subst ev
    obtain ⟨its, rv, pl, hz⟩ := I1.list sx
    have hsz : its.toArray.size = ns.length := by rw [List.size_toArray, ← rv.length, List.length_map]
    refine call_set_list (I1.ok.hd hc) pl.isList (ns := ns) (by simpa using rv.ints) (by unfold scanBound; omega) fun h' tk hS hk => ?_
    rw [hsz] at hS
    obtain ⟨o, es, ep, t, ho, hex, hd, _, _, _, hf, hn⟩ := hS
    exact PyProof.Rows.args_nil (fin h' tk _ (first_len ns) (fun b o e => hk b o (Heap.lt_size e) e) ⟨o, es, ep, t, ho, hex, hd, hf, hn⟩)
  · cases e1
    obtain ⟨b, vs, rfl, sx, dx⟩ := hd.tuple
    cases r1
    have ev := dpA_ints dx h5
    subst ev
    obtain ⟨its, rv, pl, hz⟩ := I1.tuple (sqT_up sb sx)
    refine call_set_tupI ns (I1.ok.hd hc) pl (by simpa using rv.ints) (by unfold scanBound; omega) fun h' tk c R hcl k => ?_
    have en := setR_len R
    obtain ⟨o, es, ep, t, ho, hex, hd, _, _, _, _, hf, hn, _⟩ := R
    exact PyProof.Rows.args_nil (fin h' tk c en k ⟨o, es, ep, t, ho, hex, hd, hf, hn⟩)
  · cases e1
/-! ### texts -/
theorem strs_dp {K : PySem.W.Frag} {Φ : Hp} : ∀ {vs : List V} {ds : List D} {ys : List Str}, DpAll K Φ vs ds → strsOf ds = .ok ys → vs = ys.map V.str
  | _, _, _, .nil, e => by cases e; rfl
  | _, _, _, .cons h r, e => by
    cases h with
    | str x =>
      obtain ⟨l, h1, h2⟩ := Res.bind_eq_ok.mp e
      cases h2
      rw [strs_dp r h1]
      rfl
    | non => cases e
    | bl b => cases e
    | int x => cases e
    | lst _ _ => cases e
    | tup _ _ => cases e
theorem dpA_ofStrs {K : PySem.W.Frag} {Φ : Hp} : ∀ ns : List Str, DpAll K Φ (ns.map V.str) (ns.map PyData.str)
  | [] => .nil
  | n :: ns => .cons (.str n) (dpA_ofStrs ns)
theorem mt_joinF {sep : Str} : MtR X "str.join" (fun x xs H Q => x = .str sep ∧ RF X.K (prim (.join sep)) xs H Q) := by
  intro pins s σ H x xs v us Q I rx rs h
  obtain ⟨rfl, Φ, ds0, r, sb, hd, e, ql, qs⟩ := h
  obtain ⟨d, rfl⟩ := prim_one (op := .join sep) (fun _ => rfl) rfl (fun _ _ _ => rfl) _ _ e
  obtain ⟨y, rfl⟩ : ∃ y, xs = [y] := by
    cases hd with
    | cons a b => cases b; exact ⟨_, rfl⟩
  obtain ⟨_, hd, hd1⟩ := hd.one
  cases hd
  have e : (seqOf d >>= fun xs => strsOf xs >>= fun ys => Res.guard (decide ((ys.map (·.length)).sum + ys.length * sep.length ≤ 16777216)) >>= fun _ => Res.ok (PyData.str (Txt.join sep ys))) = .ok r := e
  obtain ⟨ds, e1, e2⟩ := Res.bind_eq_ok.mp e
  obtain ⟨ys, h5, e3⟩ := Res.bind_eq_ok.mp e2
  obtain ⟨hl, e4⟩ := guard_bind e3
  cases e4
  have q := qs (fun _ z => (nomatch z)) _ _ (.str (Txt.join sep ys)) (.refl sb) (.str _)
  unfold seqOf at e1
  split at e1
  · cases e1
    obtain ⟨b, vs, rfl, sx, dx⟩ := hd1.list sb
    have ev := strs_dp dx h5
    subst ev
    exact mt_join pins s σ H _ _ v us Q I rx rs ⟨sep, b, ys, rfl, rfl, .inl sx, of_decide_eq_true hl, q⟩
  · cases e1
    obtain ⟨b, vs, rfl, sx, dx⟩ := hd1.tuple
    have ev := strs_dp dx h5
    subst ev
    exact mt_join pins s σ H _ _ v us Q I rx rs ⟨sep, b, ys, rfl, rfl, .inr (sqT_up sb sx), of_decide_eq_true hl, q⟩
  · cases e1
theorem pe_joinC {e : Expr} {te : TE} {sep : Str} {kk : Nat} {cp apos pos : Pos} (he : PE X e te) (hs : starEach [e] X.env = [(false, eval e X.env)]) (hline : (apos.endLine == pos.line) = true) :
    PE X (.Call (.Attribute (.Constant (.str sep) kk cp) "join" apos) [e] [] pos) (fun σ H Q => te σ H fun x H1 => V.str sep = .str sep ∧ RF X.K (prim (.join sep)) [x] H1 Q) := by
  have hq := pe_m1 (apos := apos) (pos := pos) PySem.F.slot_str_join PySem.F.type_str_join (mt_joinF (X := X) (sep := sep)) (pe_str (x := sep) (j := kk) (pos := cp)) he hs rfl hline
  exact ⟨fun pins s σ H Q I h => hq.run pins s σ H Q I ⟨⟨sep, rfl⟩, h⟩⟩
theorem mt_splitF {sep : Str} : MtR X "str.split" (fun x xs H Q => xs = [.str sep] ∧ RF X.K (prim (.split sep)) [x] H Q) := by
  intro pins s σ H x xs v us Q I rx rs h
  obtain ⟨rfl, Φ, ds0, r, sb, hd, e, ql, qs⟩ := h
  obtain ⟨d, rfl⟩ := prim_one (op := .split sep) (fun _ => rfl) rfl (fun _ _ _ => rfl) _ _ e
  obtain ⟨_, hd, hd1⟩ := hd.one
  cases hd
  have e : pSplit sep d = .ok r := e
  unfold pSplit at e
  split at e
  · obtain ⟨hl, e4⟩ := guard_bind e
    cases e4
    simp only [Bool.and_eq_true, Bool.not_eq_true', decide_eq_true_eq] at hl
    have ex := hd1.str
    subst ex
    exact mt_split pins s σ H _ _ v us Q I rx rs ⟨_, sep, rfl, rfl, hl.1, hl.2, fun p np => ql _ rfl p _ np (dpA_ofStrs _)⟩
  · cases e
def rSplit (K : PySem.W.Frag) (sep : Str) (x : V) (H : Hp) (Q : VK) : Prop := (∃ a, x = .str a) ∧ [V.str sep] = [V.str sep] ∧ RF K (prim (.split sep)) [x] H Q
theorem pe_splitC {o : Expr} {to : TE} {sep : Str} {kk : Nat} {cp apos pos : Pos} (ho : PE X o to) (hb : noSuper o = true) (hline : (apos.endLine == pos.line) = true) :
    PE X (.Call (.Attribute o "split" apos) [.Constant (.str sep) kk cp] [] pos) (fun σ H Q => to σ H fun x H1 => rSplit X.K sep x H1 Q) := by
  have hq := pe_m1 (apos := apos) (pos := pos) PySem.F.slot_str_split PySem.F.type_str_split (mt_splitF (X := X) (sep := sep)) ho (pe_str (x := sep) (j := kk) (pos := cp)) rfl (base_no hb _ _ _) hline
  exact hq
/-! ### is True, is False -/
theorem bl_is {b : Bool} : OpR X (compareOp .Is) (fun x y H Q => y = .bl b ∧ RF X.K (prim (.isB b)) [x] H Q) := by
  intro pins s σ H x y v u Q I rx ry w
  obtain ⟨rfl, w⟩ := w
  obtain ⟨Φ, d, r, sb, hd, er, ql, qs⟩ := w.one rfl
  cases d with
  | bool k =>
    cases er
    have ex := hd.bool
    subst ex
    exact op_isBl pins s σ H _ _ v u Q I rx ry ⟨k, b, rfl, rfl, qs (fun _ z => (nomatch z)) _ _ (.bl (decide (k = b))) (.refl sb) (.bl _)⟩
  | _ => cases er
theorem bl_not {b : Bool} : OpR X (compareOp .IsNot) (fun x y H Q => y = .bl b ∧ RF X.K (prim (.notB b)) [x] H Q) := by
  intro pins s σ H x y v u Q I rx ry w
  obtain ⟨rfl, w⟩ := w
  obtain ⟨Φ, d, r, sb, hd, er, ql, qs⟩ := w.one rfl
  cases d with
  | bool k =>
    cases er
    have ex := hd.bool
    subst ex
    exact op_notBl pins s σ H _ _ v u Q I rx ry ⟨k, b, rfl, rfl, qs (fun _ z => (nomatch z)) _ _ (.bl (!decide (k = b))) (.refl sb) (.bl _)⟩
  | _ => cases er
/-! ### a chain of three -/
open PyProof.Rows
def tChain3 (r r' r'' : R2) (ta tb tc td : TE) : TE := fun σ H Q => ta σ H fun x H1 => tb σ H1 fun y H2 => r x y H2 fun z H3 => ∃ k, z = .bl k ∧
  (if k = true then tc σ H3 fun u H4 => r' y u H4 fun z2 H5 => ∃ k2, z2 = .bl k2 ∧ (if k2 = true then td σ H5 fun w H6 => r'' u w H6 Q else Q (.bl false) H5) else Q (.bl false) H3)
theorem pe_chain3 {op op' op'' : CmpOp} {a b c d : Expr} {ta tb tc td : TE} {pos : Pos} {r r' r'' : R2} (ho : OpR X (compareOp op) r) (ho' : OpR X (compareOp op') r') (ho'' : OpR X (compareOp op'') r'') (ha : PE X a ta) (hb : PE X b tb) (hc : PE X c tc) (hd : PE X d td)
    (hm : lastMarks [op, op', op''] [b, c, d] = false) : PE X (.Compare a [op, op', op''] [b, c, d] pos) (tChain3 r r' r'' ta tb tc td) := by
  refine ⟨fun pins s σ H Q I h => ?_⟩
  refine Compare_chain (thn (ha.run pins s σ H _ I h) fun v s1 ⟨x, H1, I1, r1, q1⟩ => chain_link (thn (hb.run pins s1 σ H1 _ I1 q1) fun u s2 ⟨y, H2, I2, r2, q2⟩ =>
    thn (ho pins s2 σ H2 x y v u _ I2 r1 r2 q2) fun d s3 ⟨z, H3, I3, r3, k, e, q3⟩ => ?_)) hm
  subst e
  cases r3
  refine wpAny_truthy_bool ?_
  cases k with
  | false => exact ite_ff ⟨.bl false, H3, I3, rfl, q3⟩
  | true =>
    refine ite_tt (chain_link (thn (hc.run pins s3 σ H3 _ I3 q3) fun w' s4 ⟨u', H4, I4, r4, q4⟩ => thn (ho' pins s4 σ H4 y u' u w' _ I4 r2 r4 q4) fun d5 s5 ⟨z5, H5, I5, r5, k2, e5, q5⟩ => ?_))
    subst e5
    cases r5
    refine wpAny_truthy_bool ?_
    cases k2 with
    | false => exact ite_ff ⟨.bl false, H5, I5, rfl, q5⟩
    | true => exact ite_tt (chain_last (thn (hd.run pins s5 σ H5 _ I5 q5) fun w6 s6 ⟨z6, H6, I6, r6, q6⟩ => ho'' pins s6 σ H6 u' z6 w' w6 Q I6 r4 r6 q6))
theorem pt_chain3 {op op' op'' : CmpOp} {a b c d : Expr} {ta tb tc td : TE} {pos : Pos} {r r' r'' : R2} (ho : OpR X (compareOp op) r) (ho' : OpR X (compareOp op') r') (ho'' : OpR X (compareOp op'') r'') (ha : PE X a ta) (hb : PE X b tb) (hc : PE X c tc) (hd : PE X d td)
    (hm : lastMarks [op, op', op''] [b, c, d] = false) : PT X (.Compare a [op, op', op''] [b, c, d] pos) (tTest (tChain3 r r' r'' ta tb tc td)) := by
  refine ⟨fun pins s σ H Q I h => ?_⟩
  refine isTrue_chain (thn (ha.run pins s σ H _ I h) fun v s1 ⟨x, H1, I1, r1, q1⟩ => test_link (thn (hb.run pins s1 σ H1 _ I1 q1) fun u s2 ⟨y, H2, I2, r2, q2⟩ =>
    thn (ho pins s2 σ H2 x y v u _ I2 r1 r2 q2) fun d s3 ⟨z, H3, I3, r3, k, e, q3⟩ => ?_)) hm
  subst e
  cases r3
  refine wpAny_truthy_bool ?_
  cases k with
  | false =>
    obtain ⟨k', e', q'⟩ := q3
    cases e'
    exact ite_ff ⟨H3, I3, q'⟩
  | true =>
    refine ite_tt (test_link (thn (hc.run pins s3 σ H3 _ I3 q3) fun w' s4 ⟨u', H4, I4, r4, q4⟩ => thn (ho' pins s4 σ H4 y u' u w' _ I4 r2 r4 q4) fun d5 s5 ⟨z5, H5, I5, r5, k2, e5, q5⟩ => ?_))
    subst e5
    cases r5
    refine wpAny_truthy_bool ?_
    cases k2 with
    | false =>
      obtain ⟨k', e', q'⟩ := q5
      cases e'
      exact ite_ff ⟨H5, I5, q'⟩
    | true =>
      refine ite_tt (test_last (thn (hd.run pins s5 σ H5 _ I5 q5) fun w6 s6 ⟨z6, H6, I6, r6, q6⟩ => thn (ho'' pins s6 σ H6 u' z6 w' w6 _ I6 r4 r6 q6) fun d7 s7 ⟨z7, H7, I7, r7, k3, e7, q7⟩ => ?_))
      subst e7
      cases r7
      exact wpAny_truthy_bool ⟨H7, I7, q7⟩
end
end Mir
/-! Mir, part D: the check that a piece of the small language is a piece of the program's text; operations. -/
namespace Mir
open PySem PySem.Spec L2

structure FSig where
  name : Str
  ps : List Str
  muts : List Nat
  fresh : Bool
  dsl : List Nat := []
structure Cfg where
  N : List Str
  sc : Scope
  fns : List FSig
  blts : List Str
  muts : List Nat
  fresh : Bool
  top : Bool
  dsl : List Nat := []
  cns : List (Str × D) := []

def kindIs (k : Option NameKind) : NameKind → Bool
  | n => decide (k = some n)
def gl (c : Cfg) (x : Str) : Bool := decide (c.sc.names.lookup x = some .globalImplicit) && !(x == ("__debug__" : Str)) && decide (x ≠ "__name__")
def bl (c : Cfg) (x : Str) : Bool := gl c x && decide (x ∈ c.blts)
def vis (c : Cfg) (x : Str) : Bool :=
  (decide (c.sc.names.lookup x = some .local) || decide (c.sc.names.lookup x = some .cell) || decide (c.sc.names.lookup x = some .free)) && !(x == ("__debug__" : Str)) && !(x == ("__classdict__" : Str))
def slotIs (c : Cfg) (i : Nat) (x : Str) : Bool := decide (c.N[i]? = some x) && vis c x
def locIs (c : Cfg) (i : Nat) (x : Str) : Bool := decide (c.N[i]? = some x) && (decide (c.sc.names.lookup x = some .local) || (decide (c.sc.names.lookup x = some .cell) && c.top))

structure Ctx (c : Cfg) (X : Cx) : Prop where
  N : X.N = c.N
  nd : c.N.Nodup
  sc : X.env.scope = c.sc
  calm : X.calm = true
  gd : X.A.guards = some []
  un : X.A.units + 200 < cLine
  blt : ∀ b ∈ c.blts, X.mg b = none
  fn : c.top = true → ∀ x, X.fn x = true
  cn : ∀ p ∈ c.cns, ∃ v u, X.mg p.1 = some u ∧ RelV v u ∧ (∀ Φ, Dp X.K Φ v p.2) ∧ isLd p.2 = false

section
variable {c : Cfg} {X : Cx}
theorem Ctx.gl (C : Ctx c X) {x : Str} (h : Mir.gl c x = true) : Gl X x ∧ (x == ("__debug__" : Str)) = false ∧ x ≠ "__name__" := by
  unfold Mir.gl at h
  rw [Bool.and_eq_true, Bool.and_eq_true, decide_eq_true_iff, decide_eq_true_iff] at h
  refine ⟨?_, by simpa using h.1.2, h.2⟩
  show X.env.scope.names.lookup x = _
  rw [C.sc]
  exact h.1.1
theorem Ctx.bl (C : Ctx c X) {x : Str} (h : Mir.bl c x = true) : Gl X x ∧ (x == ("__debug__" : Str)) = false ∧ x ≠ "__name__" ∧ X.mg x = none := by
  unfold Mir.bl at h
  rw [Bool.and_eq_true, decide_eq_true_iff] at h
  obtain ⟨a, b, d⟩ := C.gl h.1
  exact ⟨a, b, d, C.blt _ h.2⟩
theorem Ctx.var (C : Ctx c X) {i : Nat} {x : Str} {pos : Pos} (h : slotIs c i x = true) : PE X (.Name x pos) (tVar i) := by
  unfold slotIs vis at h
  simp only [Bool.and_eq_true, Bool.or_eq_true, decide_eq_true_iff, Bool.not_eq_true'] at h
  refine pe_var (by rw [C.N]; exact h.1) ?_ h.2.1.2 h.2.2
  unfold Vis
  rw [C.sc]
  rcases h.2.1.1 with (q | q) | q
  · exact .inl q
  · exact .inr (.inl q)
  · exact .inr (.inr q)
theorem Ctx.loc (C : Ctx c X) {i : Nat} {x : Str} {pos : Pos} (h : locIs c i x = true) : PG X (.Name x pos) (gName i) := by
  unfold locIs at h
  simp only [Bool.and_eq_true, Bool.or_eq_true, decide_eq_true_iff] at h
  have hl : L2.Loc X.env.scope x := by
    unfold L2.Loc
    rw [C.sc]
    exact h.2.imp id fun q => q.1
  have hf : X.fn x = true ∨ X.env.scope.names.lookup x = some .local := by
    rw [C.sc]
    rcases h.2 with q | q
    · exact .inr q
    · exact .inl (C.fn q.2 x)
  exact pg_name (by rw [C.N]; exact C.nd) (by rw [C.N]; exact h.1) hl (hf := hf)
end

/-! ### argument lists -/
def isStar : Expr → Bool
  | .Starred _ _ => true
  | _ => false
theorem star_no {e : Expr} {es : List Expr} {env : Env} (h : isStar e = false) : starEach (e :: es) env = (false, eval e env) :: starEach es env := by
  cases e <;> first | rfl | cases h
inductive PEs (X : Cx) : List Expr → List TE → Prop
  | nil : PEs X [] []
  | cons {e : Expr} {t : TE} {es : List Expr} {ts : List TE} : PE X e t → isStar e = false → PEs X es ts → PEs X (e :: es) (t :: ts)
def tL : List TE → TA
  | [] => tNil
  | t :: ts => tCons t (tL ts)
def tV (r : List V → Hp → VK → Prop) (ts : List TE) : TE := fun σ H Q => tL ts σ H fun vs H' => r vs H' Q
section
variable {X : Cx}
theorem PEs.pa : ∀ {es : List Expr} {ts : List TE}, PEs X es ts → PA X es (tL ts)
  | _, _, .nil => pa_nil
  | _, _, .cons h s r => pa_cons h r.pa (star_no s)
theorem PEs.noStar : ∀ {es : List Expr} {ts : List TE} (pos : Pos), PEs X es ts → (backTo pos (starEach es X.env)).any (·.1) = false
  | _, _, _, .nil => rfl
  | _, _, pos, .cons h s r => by
    rw [star_no s]
    show (false || (backTo pos (starEach _ X.env)).any (·.1)) = false
    rw [Bool.false_or]
    exact r.noStar pos
theorem PEs.one {e : Expr} {ts : List TE} (h : PEs X [e] ts) : ∃ t, ts = [t] ∧ PE X e t := by
  cases h with
  | cons a s r =>
    cases r
    exact ⟨_, rfl, a⟩
theorem PEs.st1 {e : Expr} {ts : List TE} (h : PEs X [e] ts) : isStar e = false := by
  cases h
  assumption
theorem PEs.two {e f : Expr} {ts : List TE} (h : PEs X [e, f] ts) : ∃ t u, ts = [t, u] ∧ PE X e t ∧ PE X f u := by
  cases h with
  | cons a s r =>
    obtain ⟨u, rfl, b⟩ := r.one
    exact ⟨_, _, rfl, a, b⟩

/-! ### operations, by their syntax -/
def binOf : Pr → Option Operator
  | .add => some .Add
  | .sub => some .Sub
  | .mul => some .Mult
  | .fdiv => some .FloorDiv
  | .mod => some .Mod
  | .pow => some .Pow
  | .shl => some .LShift
  | .shr => some .RShift
  | .band => some .BitAnd
  | _ => none
def cmpOf : Pr → Option CmpOp
  | .eq => some .Eq
  | .ne => some .NotEq
  | .lt => some .Lt
  | .le => some .LtE
  | .gt => some .Gt
  | .ge => some .GtE
  | .isin => some .In
  | .notin => some .NotIn
  | _ => none
theorem bin_ok {op : Pr} {o : Operator} (h : binOf op = some o) : OpR X (binaryOp o) (fun x y H Q => RF X.K (prim op) [x, y] H Q) := by
  cases op <;> cases h
  · exact o_add
  · exact o_sub
  · exact o_mul
  · exact o_fdiv
  · exact o_mod
  · exact o_pow
  · exact o_shl
  · exact o_shr
  · exact o_band
theorem cmp_ok (hu : X.A.units + 200 < cLine) {op : Pr} {o : CmpOp} (h : cmpOf op = some o) : OpR X (compareOp o) (fun x y H Q => RF X.K (prim op) [x, y] H Q) := by
  cases op <;> cases h
  · exact c_eq hu
  · exact c_ne hu
  · exact c_lt hu
  · exact c_le hu
  · exact c_gt hu
  · exact c_ge hu
  · exact c_in hu
  · exact c_notin hu
/-- built-ins called by name: the name, whether it is a class -/
def bltOf : Pr → Option (Str × Bool)
  | .len => some ("len", false)
  | .tuple => some ("tuple", true)
  | .list => some ("list", true)
  | .repr => some ("repr", false)
  | .max => some ("max", false)
  | .min => some ("min", false)
  | .sum => some ("sum", false)
  | .all => some ("all", false)
  | .any => some ("any", false)
  | .int => some ("int", true)
  | .abs => some ("abs", false)
  | .sorted => some ("sorted", false)
  | .str => some ("str", true)
  | _ => none
def plainIx : Expr → Bool
  | .Slice _ _ _ _ => false
  | _ => true
theorem plainIx_ok {b : Expr} (h : plainIx b = true) : PlainIx b := by
  intro o i
  cases b <;> first | rfl | cases h
/-- the operands of e, where e is the operation op -/
def opArgs (c : Cfg) (op : Pr) (e : Expr) : Option (List Expr) :=
  match op, e with
  | .neg, .UnaryOp .USub a _ => some [a]
  | .isN, .Compare a [.Is] [.Constant .none _ _] _ => some [a]
  | .isB b, .Compare a [.Is] [.Constant (.bool k) _ _] _ => if decide (k = b) then some [a] else none
  | .notB b, .Compare a [.IsNot] [.Constant (.bool k) _ _] _ => if decide (k = b) then some [a] else none
  | .sortset, .Call (.Name f _) [.Call (.Name g _) [a] [] _] [] _ => if decide (f = "sorted") && decide (g = "set") && bl c f && bl c g then some [a] else none
  | .lenset, .Call (.Name f _) [.Call (.Name g _) [a] [] _] [] _ => if decide (f = "len") && decide (g = "set") && bl c f && bl c g then some [a] else none
  | .join sep, .Call (.Attribute (.Constant (.str x) _ _) m apos) [a] [] pos => if decide (x = sep) && decide (m = "join") && (apos.endLine == pos.line) then some [a] else none
  | .split sep, .Call (.Attribute o m apos) [.Constant (.str x) _ _] [] pos => if decide (x = sep) && decide (m = "split") && (apos.endLine == pos.line) && noSuper o then some [o] else none
  | .notN, .Compare a [.IsNot] [.Constant .none _ _] _ => some [a]
  | .rev, .Subscript a (.Slice none none (some (.UnaryOp .USub (.Constant (.int 1) _ _) _)) _) _ => some [a]
  | .idx, .Subscript a b _ => if plainIx b = true then some [a, b] else none
  | .isinst k, .Call (.Name f _) [a, .Name t _] [] _ => if decide (f = "isinstance") && decide (t = k.name) && bl c f && bl c t then some [a] else none
  | op, .BinOp a o b _ => if binOf op = some o then some [a, b] else none
  | op, .Compare a [o] [b] _ => if decide (cmpOf op = some o) && !behindInMarks o b then some [a, b] else none
  | op, .Call (.Name f _) es [] _ => match bltOf op with
    | some (n, _) => if decide (f = n) && bl c f && !es.isEmpty then some es else none
    | none => none
  | _, _ => none
/-- the lists that come of it are new -/
def freshOp : Pr → Bool
  | .idx => false
  | _ => true
def opR (K : PySem.W.Frag) : Pr → List V → Hp → VK → Prop
  | .idx => RP K (prim .idx)
  | .isN => fun vs H Q => V.non = V.non ∧ RF K (prim .isN) vs H Q
  | .notN => fun vs H Q => V.non = V.non ∧ RF K (prim .notN) vs H Q
  | .isB b => fun vs H Q => V.bl b = V.bl b ∧ RF K (prim (.isB b)) vs H Q
  | .notB b => fun vs H Q => V.bl b = V.bl b ∧ RF K (prim (.notB b)) vs H Q
  | .join s => fun vs H Q => V.str s = V.str s ∧ RF K (prim (.join s)) vs H Q
  | .split s => fun vs H Q => match vs with
    | [x] => rSplit K s x H Q
    | _ => False
  | .isinst k => fun vs H Q => ∃ x, vs ++ [V.ty k.name] = [x, V.ty k.name] ∧ RF K (prim (.isinst k)) [x] H Q
  | op => RF K (prim op)
theorem opR_mk {K : PySem.W.Frag} {op : Pr} {vs : List V} {H : Hp} {Q : VK} (hf : freshOp op = true) (h : RF K (prim op) vs H Q) : opR K op vs H Q := by
  cases op with
  | isN => exact ⟨rfl, h⟩
  | notN => exact ⟨rfl, h⟩
  | isB b => exact ⟨rfl, h⟩
  | notB b => exact ⟨rfl, h⟩
  | join s => exact ⟨rfl, h⟩
  | split sp =>
    obtain ⟨Φ, ds, r, sb, hd, e, ql, qs⟩ := h
    cases hd with
    | nil => cases e
    | cons a b =>
      cases b with
      | nil =>
        rename_i d
        have e' : pSplit sp d = .ok r := e
        refine ⟨?_, rfl, Φ, _, r, sb, .cons a .nil, e, ql, qs⟩
        unfold pSplit at e'
        split at e'
        · exact ⟨_, a.str⟩
        · cases e'
      | cons b c => cases e
  | idx => cases hf
  | isinst k =>
    obtain ⟨Φ, ds, r, sb, hd, e, ql, qs⟩ := h
    cases hd with
    | nil => cases e
    | cons a b =>
      cases b with
      | nil => exact ⟨_, rfl, Φ, _, r, sb, .cons a .nil, e, ql, qs⟩
      | cons b c => cases e
  | _ => exact h
def isCmp : Expr → Bool
  | .Compare _ _ _ _ => true
  | _ => false
theorem blt_call {c : Cfg} (C : Ctx c X) {x : Str} {p pos : Pos} {es : List Expr} {ts : List TE} {r : List V → Hp → VK → Prop} {id : String} (hx : bl c x = true) (hn : es.isEmpty = false) (hv : bootBuiltins x = some (.builtin id)) (hc : CallR X (.builtin id) r)
    (h : PEs X es ts) : PE X (.Call (.Name x p) es [] pos) (tV r ts) := by
  obtain ⟨g, d, n, m⟩ := C.bl hx
  cases h with
  | nil => cases hn
  | cons a s q => exact pe_callB hc g m hv (PEs.cons a s q).pa n d (star_no s) (q.noStar pos)
theorem ty_call {c : Cfg} (C : Ctx c X) {x : Str} {p pos : Pos} {es : List Expr} {ts : List TE} {r : List V → Hp → VK → Prop} {T : String} (hx : bl c x = true) (hn : es.isEmpty = false) (hv : bootBuiltins x = some (.type T)) (hc : CallR X (.type T) r)
    (h : PEs X es ts) : PE X (.Call (.Name x p) es [] pos) (tV r ts) := by
  obtain ⟨g, d, n, m⟩ := C.bl hx
  cases h with
  | nil => cases hn
  | cons a s q => exact pe_callTy hc g m hv (PEs.cons a s q).pa n d (star_no s) (q.noStar pos)
theorem blt_ok {c : Cfg} (C : Ctx c X) {op : Pr} {x : Str} {ty : Bool} {p pos : Pos} {es : List Expr} {ts : List TE} (hb : bltOf op = some (x, ty)) (hx : bl c x = true) (hn : es.isEmpty = false) (h : PEs X es ts) :
    PE X (.Call (.Name x p) es [] pos) (tV (RF X.K (prim op)) ts) := by
  cases op <;> cases hb
  · exact blt_call C hx hn (by decide +kernel) k_len h
  · exact ty_call C hx hn (by decide +kernel) k_tuple h
  · exact blt_call C hx hn (by decide +kernel) (k_repr C.gd C.un) h
  · exact blt_call C hx hn (by decide +kernel) (k_max C.calm C.un) h
  · exact blt_call C hx hn (by decide +kernel) (k_min C.calm C.un) h
  · exact blt_call C hx hn (by decide +kernel) (k_sum C.calm) h
  · exact blt_call C hx hn (by decide +kernel) (k_all C.calm) h
  · exact blt_call C hx hn (by decide +kernel) (k_any C.calm) h
  · exact ty_call C hx hn (by decide +kernel) k_int h
  · exact blt_call C hx hn (by decide +kernel) k_abs h
  · exact ty_call C hx hn (by decide +kernel) k_list h
  · exact blt_call C hx hn (by decide +kernel) (k_sorted C.un) h
  · exact ty_call C hx hn (by decide +kernel) k_str h
theorem PE.imp {e : Expr} {t u : TE} (h : PE X e t) (q : ∀ σ H Q, u σ H Q → t σ H Q) : PE X e u := ⟨fun pins s σ H Q I w => h.run pins s σ H Q I (q σ H Q w)⟩
theorem PT.imp {e : Expr} {t u : TT} (h : PT X e t) (q : ∀ σ H Q, u σ H Q → t σ H Q) : PT X e u := ⟨fun pins s σ H Q I w => h.run pins s σ H Q I (q σ H Q w)⟩

theorem none_is : OpR X (compareOp .Is) (fun x y H Q => y = .non ∧ RF X.K (prim .isN) [x] H Q) := by
  intro pins s σ H x y v u Q I rx ry w
  obtain ⟨ey, w⟩ := w
  obtain ⟨Φ, d, r, sb, hd, er, ql, qs⟩ := w.one rfl
  cases er
  refine op_isN pins s σ H x y v u Q I rx ry ⟨ey, ?_⟩
  have q := qs (fun _ z => (nomatch z)) _ _ (.bl (decide (x = .non))) (.refl sb)
  refine q ?_
  have hv := hd.dp sb
  cases hv <;> exact .bl _
theorem none_not : OpR X (compareOp .IsNot) (fun x y H Q => y = .non ∧ RF X.K (prim .notN) [x] H Q) := by
  intro pins s σ H x y v u Q I rx ry w
  obtain ⟨ey, w⟩ := w
  obtain ⟨Φ, d, r, sb, hd, er, ql, qs⟩ := w.one rfl
  cases er
  refine op_notN pins s σ H x y v u Q I rx ry ⟨ey, ?_⟩
  have q := qs (fun _ z => (nomatch z)) _ _ (.bl (!decide (x = .non))) (.refl sb)
  refine q ?_
  have hv := hd.dp sb
  cases hv <;> exact .bl _
/-- an operation is what the machine does -/
theorem op_sound {c : Cfg} (C : Ctx c X) {op : Pr} {e : Expr} {es : List Expr} {ts : List TE} (h : opArgs c op e = some es) (p : PEs X es ts) :
    PE X e (tV (opR X.K op) ts) ∧ (isCmp e = true → PT X e (tTest (tV (opR X.K op) ts))) := by
  unfold opArgs at h
  split at h
  · cases h
    obtain ⟨t, rfl, h1⟩ := p.one
    exact ⟨pe_un u_neg h1, fun z => (nomatch z)⟩
  · cases h
    obtain ⟨t, rfl, h1⟩ := p.one
    exact ⟨pe_cmpR none_is h1 pe_non rfl, fun _ => pt_cmpR none_is h1 pe_non rfl⟩
  · split at h
    · cases h
      rename_i hk
      have hk := of_decide_eq_true hk
      subst hk
      obtain ⟨t, rfl, h1⟩ := p.one
      exact ⟨pe_cmpR bl_is h1 pe_bl rfl, fun _ => pt_cmpR bl_is h1 pe_bl rfl⟩
    · cases h
  · split at h
    · cases h
      rename_i hk
      have hk := of_decide_eq_true hk
      subst hk
      obtain ⟨t, rfl, h1⟩ := p.one
      exact ⟨pe_cmpR bl_not h1 pe_bl rfl, fun _ => pt_cmpR bl_not h1 pe_bl rfl⟩
    · cases h
  · split at h
    · cases h
      rename_i hk
      simp only [Bool.and_eq_true, decide_eq_true_iff] at hk
      obtain ⟨⟨⟨hf, hg⟩, bf⟩, bg⟩ := hk
      subst hf hg
      have hs := p.st1
      obtain ⟨t, rfl, h1⟩ := p.one
      obtain ⟨g1, _, _, m1⟩ := C.bl bf
      obtain ⟨g2, _, _, m2⟩ := C.bl bg
      exact ⟨pe_sortset C.calm C.un g1 m1 g2 m2 h1 (star_no hs), fun z => (nomatch z)⟩
    · cases h
  · split at h
    · cases h
      rename_i hk
      simp only [Bool.and_eq_true, decide_eq_true_iff] at hk
      obtain ⟨⟨⟨hf, hg⟩, bf⟩, bg⟩ := hk
      subst hf hg
      have hs := p.st1
      obtain ⟨t, rfl, h1⟩ := p.one
      obtain ⟨g1, _, _, m1⟩ := C.bl bf
      obtain ⟨g2, _, _, m2⟩ := C.bl bg
      exact ⟨pe_lenset C.calm g1 m1 g2 m2 h1 (star_no hs), fun z => (nomatch z)⟩
    · cases h
  · split at h
    · cases h
      rename_i hk
      simp only [Bool.and_eq_true, decide_eq_true_iff] at hk
      obtain ⟨⟨hx, hm⟩, hl⟩ := hk
      subst hx hm
      have hs := p.st1
      obtain ⟨t, rfl, h1⟩ := p.one
      exact ⟨pe_joinC h1 (star_no hs) hl, fun z => (nomatch z)⟩
    · cases h
  · split at h
    · cases h
      rename_i hk
      simp only [Bool.and_eq_true, decide_eq_true_iff] at hk
      obtain ⟨⟨⟨hx, hm⟩, hl⟩, hb⟩ := hk
      subst hx hm
      obtain ⟨t, rfl, h1⟩ := p.one
      exact ⟨pe_splitC h1 hb hl, fun z => (nomatch z)⟩
    · cases h
  · cases h
    obtain ⟨t, rfl, h1⟩ := p.one
    exact ⟨pe_cmpR none_not h1 pe_non rfl, fun _ => pt_cmpR none_not h1 pe_non rfl⟩
  · cases h
    obtain ⟨t, rfl, h1⟩ := p.one
    exact ⟨pe_rev h1, fun z => (nomatch z)⟩
  · split at h
    · cases h
      rename_i hp
      obtain ⟨t, u, rfl, h1, h2⟩ := p.two
      exact ⟨pe_ix ix_ok h1 h2 (plainIx_ok hp), fun z => (nomatch z)⟩
    · cases h
  · split at h
    · cases h
      rename_i k f p1 a t p2 pos hc
      simp only [Bool.and_eq_true, decide_eq_true_iff] at hc
      obtain ⟨⟨⟨hf, ht⟩, bf⟩, bt⟩ := hc
      obtain ⟨ta, rfl, h1⟩ := p.one
      have hs : isStar a = false := by cases p; assumption
      subst hf ht
      obtain ⟨g, d, n, m⟩ := C.bl bf
      obtain ⟨g2, d2, n2, m2⟩ := C.bl bt
      have hT : PE X (.Name k.name p2) (tC (.ty k.name)) := by
        cases k
        · exact pe_bltn g2 m2 (by decide +kernel) rfl n2 d2
        · exact pe_bltn g2 m2 (by decide +kernel) rfl n2 d2
        · exact pe_bltn g2 m2 (by decide +kernel) rfl n2 d2
        · exact pe_bltn g2 m2 (by decide +kernel) rfl n2 d2
        · exact pe_bltn g2 m2 (by decide +kernel) rfl n2 d2
      have hq := pe_callB (p := p1) (pos := pos) (k_isinst (X := X) k) g m (by decide +kernel) (pa_cons h1 (pa_cons hT pa_nil) (star_no hs)) n d (star_no hs) rfl
      exact ⟨hq, fun z => (nomatch z)⟩
    · cases h
  · split at h
    · cases h
      rename_i hb
      obtain ⟨t, u, rfl, h1, h2⟩ := p.two
      have hq := fun pos => pe_op (pos := pos) (bin_ok (X := X) hb) h1 h2
      refine ⟨?_, fun z => (nomatch z)⟩
      cases op <;> first | exact hq _ | cases hb
    · cases h
  · split at h
    · cases h
      rename_i hb
      simp only [Bool.and_eq_true, decide_eq_true_iff, Bool.not_eq_true'] at hb
      obtain ⟨t, u, rfl, h1, h2⟩ := p.two
      have hk := cmp_ok (X := X) C.un hb.1
      have hb1 := hb.1
      refine ⟨?_, fun _ => ?_⟩
      · have hq := fun pos => pe_cmpR (pos := pos) hk h1 h2 hb.2
        cases op <;> first | exact hq _ | cases hb1
      · have hq := fun pos => pt_cmpR (pos := pos) hk h1 h2 hb.2
        cases op <;> first | exact hq _ | cases hb1
    · cases h
  · split at h
    · split at h
      · cases h
        rename_i n0 b0 hb hz1 hz2 hz3 hc
        simp only [Bool.and_eq_true, decide_eq_true_iff, Bool.not_eq_true'] at hc
        obtain ⟨⟨hf, hx⟩, hn⟩ := hc
        subst hf
        have hq := fun p1 p2 => blt_ok C (p := p1) (pos := p2) hb hx hn p
        refine ⟨?_, fun z => (nomatch z)⟩
        cases op <;> first | exact hq _ _ | cases hb
      · cases h
    · cases h
  · cases h
end
end Mir
/-! Mir, part E: what a def of the program promises; its call. -/
namespace Mir
open PySem PySem.Spec L2
open PyProof.Rows (envOfC)

/-- a def keeps a promise, called where no text of a thing is being made -/
structure FnG (P : Program) (w : World) (K : PySem.W.Frag) (mg : Str → Option Value) (base : Heap) (k : Nat) (f : Addr) (fd : FuncData) (ps : List Str) (sp : Sp) : Prop where
  len : ∀ vs H Q E, sp vs H Q E → vs.length = ps.length
  run : ∀ (A : Around) (outer : List Env) (s : Shared) (H : Hp) (args : Args) (us : List Value) (vs : List V) (Q : VK) (E : XK), Room k A → A.guards = some [] →
    Env0 P w K mg base A outer s H → BindsTo s fd args (ps.zip us) → Vals vs us → sp vs H Q E → codeAny (model P w) A (.call (.ref f) args) (CR CX0 outer P w H s Q E) s

theorem pe_callG {X : Cx} {k : Nat} {f : Addr} {fd : FuncData} {ps : List Str} {sp : Sp} {x : Str} {p pos : Pos} {es : List Expr} {ts : List TE} (F : FnG X.prog X.w X.K X.mg X.base k f fd ps sp) (hr : Room k X.A) (hgd : X.A.guards = some [])
    (hg : Gl X x) (hm : X.mg x = some (.ref f)) (hk : PySem.W.keepIn X.K (.ref f) = true) (hb : Binds X.K fd ps []) (hdb : (x == ("__debug__" : Str)) = false) (hne : es.isEmpty = false) (ha : PEs X es ts) :
    PE X (.Call (.Name x p) es [] pos) (tV (fun vs H Q => sp vs H Q E0) ts) := by
  refine ⟨fun pins s σ H Q I h => ?_⟩
  cases ha with
  | nil => cases hne
  | cons a st q =>
    refine wpAny_Call_Name_kw (ld_glob I hg hm ?_ hdb)
    refine PySem.W.callWith_K (h₀ := X.base) I.ok.mod.kin hk (thn ((PEs.cons a st q).pa.run pos pins s σ H _ I h) fun us s1 hq => ?_) (star_no st) (q.noStar pos)
    obtain ⟨vs, H1, I1, r, hs⟩ := hq
    refine ⟨I1.kIn, ?_⟩
    have hl : (us ++ []).length = ps.length := by
      rw [List.append_nil, ← r.length]
      exact F.len _ _ _ _ hs
    have hbi := hb s1 us I1.kIn hl
    rw [List.append_nil] at hbi
    refine wpAny_call (codeAny_mono (F.run X.A X.stack s1 H1 ⟨us, []⟩ us vs Q E0 hr hgd I1.env0 hbi r hs) fun rs s' hq => ?_)
    cases rs with
    | error e => exact False.elim hq
    | ok fl =>
      cases fl with
      | ret u => exact I1.after hq
      | next => exact False.elim hq
      | brk => exact False.elim hq
      | cont => exact False.elim hq

/-- a def of the text keeps what its body does -/
theorem fnG_of {P : Program} {w : World} {K : PySem.W.Frag} {mg : Str → Option Value} {base : Heap} {x qual : Str} {st : Stmt} {f : Addr} {fd : FuncData} {N ps : List Str} {k : Nat} {sp : Sp} (F : Fun K x qual st f fd) (S : FnScope N ps (defScope st))
    (len : ∀ vs H Q E, sp vs H Q E → vs.length = ps.length)
    (body : ∀ (cdv : Value) (A : Around) (outer : List Env) (s : Shared) (H : Hp) (vs : List V) (Q : VK) (E : XK), Room k (A.deeper (envOfC qual (defScope st) s.heap.objs.size f cdv)) → A.guards = some [] → sp vs H Q E →
      ∃ t, PSs (cxOf CX0 P w K mg base N qual (defScope st) f cdv A outer s H E).nox (defBody st) t ∧ t { nx := fun _ H' => Q .non H', rt := Q } (start N vs) H) : FnG P w K mg base (k + 1) f fd ps sp := by
  obtain ⟨oc, od, kV, doc, pm, an, cdv, ct, osl, rfl, lk, hcd⟩ := F.ex
  refine ⟨len, fun A outer s H args us vs Q E hr hgd e0 hb r hsp => ?_⟩
  have hl := len _ _ _ _ hsp
  have KX : K.In s.heap := e0.mod.kin.keeps fun b o e => (e0.bs b o e).1
  have lim : s.heap.NoLimit := e0.mod.nolimit.keeps fun b o e => (e0.bs b o e).1
  have hkind : ∀ y ∈ ps.zip us, (defScope st).names.lookup y.1 = some .local ∨ ((defScope st).names.lookup y.1 = some .cell ∧ ((cellsFrom (s.heap.objs.size + 1) (defScope st).names []).lookup y.1).isSome = true) := by
    intro y hy
    rcases S.par y.1 (List.of_mem_zip (a := y.1) (b := y.2) hy).1 with q | q
    · exact .inl q
    · exact .inr ⟨q, PySem.W.cellsFrom_some _ _ _ (.inl q)⟩
  refine codeAny_call_function hr.depth (KX _ _ lk) rfl S.co S.gen rfl (PySem.W.codeRec_of KX hcd) (hb _ _ _ _ ?_)
  refine wpAny_newFunctionEnv_cells S.kind hkind fun env he s1 xc => ?_
  subst he
  refine ⟨lim.keeps xc.toInCall.keep, codeAny_func ?_⟩
  obtain ⟨t, ht, hq⟩ := body cdv A outer s H vs Q E (hr.deeper _) hgd hsp
  have I : Inv (cxOf CX0 P w K mg base N qual (defScope st) f cdv A outer s H E) [] (start N vs) H s1 := inv_start S hr.hd e0 hl r xc
  refine wpAny_mono (ht.nox.run [] s1 (start N vs) H _ I hq) (fun fl s' hs => ?_) fun e s' hs => hs
  have fin : ∀ {σ' : L2.St} {H' : Hp} {v : V} {u : Value}, Inv (cxOf CX0 P w K mg base N qual (defScope st) f cdv A outer s H E) [] σ' H' s' → RelV v u → Q v H' → CE outer P w H s Q u s' := by
    intro σ' H' v u J rv q
    exact ⟨v, H', J.os, J.bare, J.base, J.hok, rv, q⟩
  cases fl with
  | ret u =>
    obtain ⟨v, σ', H', J, rv, q⟩ := hs
    exact fin J rv q
  | next =>
    obtain ⟨σ', H', J, q⟩ := hs
    exact fin (v := V.non) (u := Value.none) J rfl q
  | brk =>
    obtain ⟨_, _, _, q⟩ := hs
    exact False.elim q
  | cont =>
    obtain ⟨_, _, _, q⟩ := hs
    exact False.elim q

/-! ### the promise -/
def MutA (muts : List Nat) (vs : List V) (a : Addr) : Prop := ∃ j ∈ muts, vs[j]? = some (.ref a)
structure ArgsOk (K : PySem.W.Frag) (Φ H : Hp) (muts dsl : List Nat) (vs : List V) (ds : List D) : Prop where
  len : vs.length = ds.length
  sh : ∀ j v d, j ∉ muts → vs[j]? = some v → ds[j]? = some d → Dp K Φ v d
  ow : ∀ j ∈ muts, ∃ a d, vs[j]? = some (.ref a) ∧ ds[j]? = some d ∧ Φ a = none ∧ Held K Φ H a d ∧ (isDd d = true → j ∈ dsl)
  inj : ∀ j ∈ muts, ∀ k ∈ muts, j ≠ k → ∀ a, vs[j]? = some (.ref a) → vs[k]? = some (.ref a) → False
def ResOk (K : PySem.W.Frag) (H Φ' H' : Hp) (fr : Bool) (v : V) (r : D) : Prop := match fr, r with
  | true, .list rs => ∃ p us, v = .ref p ∧ H p = none ∧ H' p = some (.lst us) ∧ Φ' p = none ∧ DpAll K Φ' us rs
  | _, r => Dp K Φ' v r
structure EndOk (K : PySem.W.Frag) (Φ H Φ' H' : Hp) (muts dsl : List Nat) (vs : List V) (ws : List D) (fr : Bool) (v : V) (r : D) : Prop where
  up : Same Φ Φ'
  sub : Same Φ' H'
  frame : ∀ a o, H a = some o → ¬ MutA muts vs a → H' a = some o
  free : ∀ a, H a ≠ none → Φ a = none → Φ' a = none
  outs : ∀ (k j : Nat), muts[k]? = some j → ∃ (a : Addr) (d : D), vs[j]? = some (V.ref a) ∧ ws[k]? = some d ∧ Held K Φ' H' a d ∧ (isDd d = true → j ∈ dsl)
  res : ResOk K H Φ' H' fr v r
def spOf (K : PySem.W.Frag) (cl : Cl) (f : Nat) (fs : FSig) : Sp := fun vs H Q _ => ∃ (Φ : Hp) (ds : List D) (r : D) (ws : List D), Same Φ H ∧ vs.length = fs.ps.length ∧ ArgsOk K Φ H fs.muts fs.dsl vs ds ∧ cl f ds = .ok (r, ws) ∧
  ws.length = fs.muts.length ∧ (∀ w ∈ ws, isLd w = true) ∧ ∀ v Φ' H', EndOk K Φ H Φ' H' fs.muts fs.dsl vs ws fs.fresh v r → Q v H'

/-! ### the call's environment -/
theorem setAll_len : ∀ (is : List Nat) (ds : List D) (ε : MEnv), (setAll ε is ds).length = ε.length
  | [], _, _ => rfl
  | _ :: _, [], _ => rfl
  | i :: is, d :: ds, ε => by
    unfold setAll
    rw [setAll_len is ds, List.length_set]
theorem setAll_ne : ∀ {is : List Nat} {ds : List D} {ε : MEnv} {i : Nat}, i ∉ is → (setAll ε is ds)[i]? = ε[i]?
  | [], _, _, _, _ => rfl
  | _ :: _, [], _, _, _ => rfl
  | j :: is, d :: ds, ε, i, h => by
    unfold setAll
    rw [List.mem_cons, not_or] at h
    rw [setAll_ne h.2, List.getElem?_set_ne (Ne.symm h.1)]
theorem setAll_at : ∀ {is : List Nat} {ds : List D} {ε : MEnv} {i k : Nat}, is.Nodup → is[k]? = some i → k < ds.length → i < ε.length → (setAll ε is ds)[i]? = some ds[k]?
  | [], _, _, _, _, _, h, _, _ => by simp at h
  | _ :: _, [], _, _, _, _, _, h, _ => by simp at h
  | j :: is, d :: ds, ε, i, 0, nd, h, _, hl => by
    have e := Option.some.inj h
    subst e
    unfold setAll
    rw [setAll_ne (List.nodup_cons.mp nd).1, List.getElem?_set_self hl]
    rfl
  | j :: is, d :: ds, ε, i, k + 1, nd, h, hk, hl => by
    unfold setAll
    rw [setAll_at (k := k) (List.nodup_cons.mp nd).2 h (by simpa using hk) (by rw [List.length_set]; exact hl)]
    rfl
end Mir
/-! Mir, part I1: enumerate over a tuple. -/
namespace Mir
open PySem PySem.Spec L2
open Sem (wp)
open AutoSeq1 (wpAny_loadPart')
abbrev titO (l : Addr) : Obj := { cls := .type "tuple_iterator", data := .fields #[.ref l, .int 0 0] }
abbrev enuO (i : Addr) : Obj := { cls := .type "enumerate", data := .fields #[.none, .bool false, .ref i, rawInt 0, .none, .none] }
theorem new_enumT (l : Addr) (items : Array Value) (n : Nat) (dct : Option Addr) (sl : Array (Option Value)) :
    Meets (Builtin.«enumerate.__new__» ⟨[.type "enumerate", .ref l], []⟩) (fun _ R sh => sh.heap.get? l = some { cls := .type "tuple", dict := dct, data := .seq items n, slots := sl } ∧
      R (.ok (.ret (.ref (sh.heap.push (titO l)).objs.size))) { sh with heap := (sh.heap.push (titO l)).push (enuO sh.heap.objs.size) }) :=
  .of_wp fun prog w A R sh hyp => by
    obtain ⟨hp, gn, dd, tk, os⟩ := sh
    obtain ⟨hget, hyp⟩ := hyp
    have hsub := sub_enumerate
    have hT : Heap.IsTuple (Shared.heap ⟨hp, gn, dd, tk, os⟩) l items := ⟨_, hget, rfl, n, rfl⟩
    wp_walk using wpAny_loadPart' hget
    refine wpAny_stack_any (fun stk => wpAny_pure ?_)
    split
    · rename_i c _ _ _ _ _
      cases hce : (c == Value.type "enumerate")
      · wp_walk using wpAny_loadPart' hget, wpAny_pyIter_tuple hT
        exact ⟨_, rfl, hyp⟩
      · wp_walk using wpAny_loadPart' hget, wpAny_pyIter_tuple hT
        exact ⟨_, rfl, hyp⟩
    · wp_walk using wpAny_loadPart' hget, wpAny_pyIter_tuple hT
      exact ⟨_, rfl, hyp⟩
theorem call_enumT {prog : Program} {w : World} {A : Around} {E : Value → Shared → Prop} {s : Shared} {l : Addr} {items : Array Value} {Q : Value → Shared → Prop} (hT : s.heap.IsTuple l items)
    (hq : ∀ h', IsEnum h' (s.heap.objs.size + 1) s.heap.objs.size 0 .none → h'.IsTupleIter s.heap.objs.size l 0 → (∀ b o, s.heap.get? b = some o → h'.get? b = some o) → Q (.ref (s.heap.objs.size + 1)) { s with heap := h' }) :
    wpAny (model prog w) A (call (.type "enumerate") [.ref l]) Q E s := by
  obtain ⟨⟨c, dct, dt, sl⟩, hget, hc, n, hd⟩ := hT
  have hc : c = .type "tuple" := hc
  have hd : dt = .seq items n := hd
  subst hc
  subst hd
  have sz : (s.heap.push (titO l)).objs.size = s.heap.objs.size + 1 := Heap.size_push ..
  have e1 : IsEnum ((s.heap.push (titO l)).push (enuO s.heap.objs.size)) (s.heap.objs.size + 1) s.heap.objs.size 0 .none := by
    have z := Heap.get?_push_size (s.heap.push (titO l)) (o := enuO s.heap.objs.size) rfl
    rw [sz] at z
    exact z
  refine callType_new F.called_enumerate (by decide) (F.typeCall_enumerate_1 _) (F.newCall_enumerate_1 _) (fun ob => F.args_object_init_2 ob _) F.entry_enumerate_new (new_enumT l items n dct sl) ⟨hget, ?_⟩
  show _ ∧ _
  rw [sz]
  exact ⟨⟨_, e1, rfl⟩, hq _ e1 ⟨_, Heap.get?_push_of_some _ (Heap.get?_push_size _ rfl), rfl, rfl⟩ fun b o z => Heap.get?_push_of_some _ (Heap.get?_push_of_some _ z)⟩
/-- the tuple at a, each item in a new pair -/
def IteT (K : PySem.W.Frag) (a : Addr) : It :=
  ⟨fun i H => ∃ (xs : List V) (x : V), SqT K H a xs ∧ xs[i]? = some x, fun i H v H' => ∃ T x, v = .ref T ∧ H T = none ∧ H' = upd H T (.tup [.int (i : Nat), x]) ∧ ∀ xs, SqT K H a xs → xs[i]? = some x, fun i H => ∃ xs : List V, SqT K H a xs ∧ xs.length = i⟩
theorem turn_enumT {P : Program} {w : World} {K : PySem.W.Frag} {elts : List Expr} {kk : Nat} {tpos : Pos} (a e it : Addr) :
    Turn P w K (.Tuple elts kk tpos) (IteT K a) [e, it] e (fun i h => (∃ old, IsEnum h e it ((i : Nat) : Int) old) ∧ h.IsTupleIter it a i ∧ e ≠ it ∧ a ≠ it ∧ e ≠ a) where
  mem := by simp
  obj := fun i h st b hb => by
    obtain ⟨⟨old, he⟩, ⟨o, ho, hc, hd⟩, _⟩ := st
    rcases (show b = e ∨ b = it by simpa using hb) with z | z
    · subst z
      exact ⟨_, he, fun v q => (nomatch q)⟩
    · subst z
      exact ⟨o, ho, fun v q => by rw [hd] at q; cases q⟩
  keep := fun i h h' st k => by
    obtain ⟨⟨old, he⟩, hi, hne⟩ := st
    exact ⟨⟨old, k e (by simp) _ he⟩, hi.at fun o q => k it (by simp) o q, hne⟩
  item := by
    intro X hP hw hK hc i pins s σ H E I hf st hg
    cases hP
    cases hw
    cases hK
    obtain ⟨⟨old, he⟩, hit, hne, hai, hea⟩ := st
    obtain ⟨xs, x, hq, hx⟩ := hg
    obtain ⟨its, rv, pt, hz⟩ := I.tuple hq
    obtain ⟨u, hu, ru⟩ := rv.get hx
    have hel : e < s.heap.objs.size := Heap.lt_size he
    have hil : it < s.heap.objs.size := by
      obtain ⟨_, q, _⟩ := hit
      exact Heap.lt_size q
    have hu2 : its.toArray[i]? = some u := by simpa using hu
    have pt2 : s.heap.IsTuple a its.toArray := pt
    have il : i < its.toArray.size := (Array.getElem?_eq_some_iff.mp hu2).1
    have D := Draws.tuple (prog := X.prog) (w := X.w) (A := X.A.in1) (I.ok.hd hc) it a hai its.toArray
    refine wpAny_pyNext_enum_itemD D he ⟨hit, pt2⟩ il hne (by simp [hne, hea]) fun y h' tk hy ho hst hT hsz hk => ?_
    have ey : y = u := Option.some.inj (hy.symm.trans hu2)
    subst ey
    refine ⟨_, rfl, wpAny_letOwnedTupleGo_enum (s := { s with heap := h', toks := tk + 1 }) ho fun h'' he' sb => ?_⟩
    have hT2 : h''.get? s.heap.objs.size = some { cls := .type "tuple", data := .seq #[.int i tk, y] } := (sb.2 _ (Nat.ne_of_gt hel)).trans hT
    have new : ObjOk X.prog X.w (upd H s.heap.objs.size (.tup [.int (i : Nat), x])) h'' s.heap.objs.size (.tup [.int (i : Nat), x]) :=
      ⟨by show 2 ≤ sizeLine; decide, [.int i tk, y], .cons ⟨_, rfl⟩ (.cons ru .nil), ⟨_, hT2, rfl, _, rfl⟩⟩
    have I1 : Inv X pins σ (upd H s.heap.objs.size (.tup [.int (i : Nat), x])) { s with heap := h'', toks := tk + 1 } :=
      I.turnedNew (ch := [e, it]) (fun b ob hb q => (sb.2 b fun z => hb (by simp [z])).trans (hk b ob (fun z => hb (by simp [z])) (fun z => hb (by simp [z])) q)) hf (Nat.le_refl _) new
    refine ⟨.ref s.heap.objs.size, _, I1, rfl, ⟨_, x, rfl, I.hok.fresh (Nat.le_refl _), rfl, fun ys hy => by rw [I.tuple_inj hy hq]; exact hx⟩, ⟨⟨y, ?_⟩, hst.1.at fun o q => (sb.2 it (Ne.symm hne)).trans q, hne, hai, hea⟩, fun b hb => ?_⟩
    · rw [show ((i + 1 : Nat) : Int) = (i : Int) + 1 by omega]
      exact he'
    · have hb' : b < s.heap.objs.size := by
        rcases (show b = e ∨ b = it by simpa using hb) with z | z
        · subst z
          exact hel
        · subst z
          exact hil
      rw [upd_ne (Nat.ne_of_lt hb')]
      exact (hf b hb).1
  done := by
    intro X hP hw hK hc i pins s σ H E I hf st hg
    cases hP
    cases hw
    cases hK
    obtain ⟨⟨old, he⟩, hit, hne, hai, hea⟩ := st
    obtain ⟨xs, hq, hx⟩ := hg
    obtain ⟨its, rv, pt, hz⟩ := I.tuple hq
    obtain ⟨f0, f1, f2, f3, f4, f5⟩ := hf it (by simp)
    have hl := rv.length
    have ei : i = its.toArray.size := by
      rw [List.size_toArray]
      omega
    subst ei
    have pt2 : s.heap.IsTuple a its.toArray := pt
    have D := Draws.tuple (prog := X.prog) (w := X.w) (A := X.A.in1) (I.ok.hd hc) it a hai its.toArray
    exact wpAny_pyNext_enum_endD D he ⟨hit, pt2⟩ fun h' eb => ⟨rfl, I.turned (t' := s.toks) (fun b o hb q => eb b o hb q) f0 f1 f3 f4 f5⟩
  self := fun A i s Q E st h => by
    obtain ⟨⟨_, he⟩, _⟩ := st
    exact wpAny_pyIter_enum he h
/-- enumerate(x), x a list or a tuple -/
theorem pi_enumA {X : Cx} {e : Expr} {ta : TA} {p pos tpos : Pos} {elts : List Expr} {kk : Nat} (hg : Gl X "enumerate") (hm : X.mg "enumerate" = none) (ha : PA X [e] ta) (hs : starEach [e] X.env = [(false, eval e X.env)]) :
    PI X (.Tuple elts kk tpos) (.Call (.Name "enumerate" p) [e] [] pos) (fun σ H R => ta σ H fun vs H1 => ∃ a xs, vs = [.ref a] ∧ ((SqL X.K H1 a xs ∧ R (Ite X.K a) H1) ∨ (SqT X.K H1 a xs ∧ R (IteT X.K a) H1))) := by
  refine ⟨fun pins s σ H R I h => ?_⟩
  refine PyProof.Rows.Call_ (ld_blt I hg hm PyProof.Rows.boot_enumerate (PyProof.Rows.callWith_type1 (thn (ha.run pos pins s σ H _ I h) fun us s1 hq1 => ?_) hs rfl))
  obtain ⟨vs, H1, I1, r1, a, xs, ex, q⟩ := hq1
  subst ex
  have fp : ∀ b, b ∈ [s1.heap.objs.size + 1, s1.heap.objs.size] → FpOk X pins H1 b := fun b hb => by
    have hle : s1.heap.objs.size ≤ b := by
      rcases (show b = s1.heap.objs.size + 1 ∨ b = s1.heap.objs.size by simpa using hb) with z | z <;> omega
    exact I1.fpOk hle (I1.hok.fresh hle)
  cases r1 with
  | cons r rr =>
    cases rr
    cases r
    rcases q with ⟨hq, q⟩ | ⟨hq, q⟩
    · obtain ⟨its, rv, pl, hz⟩ := I1.list hq
      refine call_enumerate_list pl.isList fun h' he hit hsz hk => wpAny_pyIter_enum he ?_
      exact ⟨s1.heap.objs.size + 1, [s1.heap.objs.size + 1, s1.heap.objs.size], _, _, H1, rfl, I1.kept (t' := s1.toks) hk, turn_enum a (s1.heap.objs.size + 1) s1.heap.objs.size, ⟨⟨.none, he⟩, hit, Nat.succ_ne_self _⟩, fp, q⟩
    · obtain ⟨its, rv, pt, hz⟩ := I1.tuple hq
      have pt2 : s1.heap.IsTuple a its.toArray := pt
      have hal : a < s1.heap.objs.size := by
        obtain ⟨o, q, _⟩ := pt2
        exact Heap.lt_size q
      refine call_enumT pt2 fun h' he hit hk => wpAny_pyIter_enum he ?_
      exact ⟨s1.heap.objs.size + 1, [s1.heap.objs.size + 1, s1.heap.objs.size], _, _, H1, rfl, I1.kept (t' := s1.toks) hk, turn_enumT a (s1.heap.objs.size + 1) s1.heap.objs.size, ⟨⟨.none, he⟩, hit, Nat.succ_ne_self _, Nat.ne_of_lt hal, Nat.ne_of_gt (Nat.lt_succ_of_lt hal)⟩, fp, q⟩
end Mir
/-! Mir, part I: what loops walk. -/
namespace Mir
open PySem PySem.Spec L2

/-- the walk J hands out the items, while what is known stays -/
structure ItOk (K : PySem.W.Frag) (Φ : Hp) (J : It) (items : List D) : Prop where
  go : ∀ i H, Same Φ H → i < items.length → J.go i H
  yld : ∀ i H Φ0 x H', Same Φ Φ0 → Same Φ0 H → J.yld i H x H' → i < items.length → ∃ Φ', Grow Φ0 H Φ' H' ∧ ∃ d, items[i]? = some d ∧ Dp K Φ' x d
  stop : ∀ i H, Same Φ H → items.length = i → J.stop i H
/-- wished of an iterable, by the values of its parts -/
def RI (K : PySem.W.Frag) (k : IK) : List V → Hp → (It → Hp → Prop) → Prop := fun vs H R =>
  ∃ (Φ : Hp) (ds items : List D), Same Φ H ∧ DpAll K Φ vs ds ∧ iterF k ds = .ok items ∧ ∀ J Φ' H', Grow Φ H Φ' H' → ItOk K Φ' J items → R J H'
def tI (K : PySem.W.Frag) (k : IK) (ts : List TE) : TI := fun σ H R => tL ts σ H fun vs H' => RI K k vs H' R

section
variable {X : Cx} {K : PySem.W.Frag} {Φ : Hp}
theorem it_list {a : Addr} {vs : List V} {ds : List D} (hs : SqL K Φ a vs) (hd : DpAll K Φ vs ds) : ItOk K Φ (Itl K a) ds := by
  have hl := dpA_len hd
  refine ⟨fun i H s hi => ?_, fun i H Φ0 x H' s1 s2 y hi => ?_, fun i H s hi => ⟨vs, sqL_up s hs, by omega⟩⟩
  · exact ⟨vs, vs[i]'(by omega), sqL_up s hs, by simp⟩
  · obtain ⟨rfl, f⟩ := y
    have hx := f vs (sqL_up (s1.trans s2) hs)
    obtain ⟨d, e, q⟩ := dpA_getV hd hx
    exact ⟨Φ0, .refl s2, d, e, dp_up s1 q⟩
theorem it_tup {a : Addr} {vs : List V} {ds : List D} (hs : SqT K Φ a vs) (hd : DpAll K Φ vs ds) : ItOk K Φ (Itt K a) ds := by
  have hl := dpA_len hd
  refine ⟨fun i H s hi => ?_, fun i H Φ0 x H' s1 s2 y hi => ?_, fun i H s hi => ⟨vs, sqT_up s hs, by omega⟩⟩
  · exact ⟨vs, vs[i]'(by omega), sqT_up s hs, by simp⟩
  · obtain ⟨rfl, f⟩ := y
    have hx := f vs (sqT_up (s1.trans s2) hs)
    obtain ⟨d, e, q⟩ := dpA_getV hd hx
    exact ⟨Φ0, .refl s2, d, e, dp_up s1 q⟩
theorem upFrom_len : ∀ (n : Nat) (lo : Int), (upFrom lo n).length = n
  | 0, _ => rfl
  | n + 1, lo => congrArg (· + 1) (upFrom_len n (lo + 1))
theorem upFrom_get : ∀ (n : Nat) (lo : Int) (i : Nat), i < n → (upFrom lo n)[i]? = some (.int (lo + i))
  | 0, _, _, h => absurd h (Nat.not_lt_zero _)
  | n + 1, lo, 0, _ => by
    show some (PyData.int lo) = _
    simp
  | n + 1, lo, i + 1, h => by
    show (upFrom (lo + 1) n)[i]? = _
    rw [upFrom_get n (lo + 1) i (by omega)]
    congr 2
    omega
theorem it_rng (lo : Int) (n : Nat) : ItOk K Φ (Itr lo n) (upFrom lo n) := by
  refine ⟨fun i H s hi => ?_, fun i H Φ0 x H' s1 s2 y hi => ?_, fun i H s hi => ?_⟩
  · rw [upFrom_len] at hi
    exact hi
  · rw [upFrom_len] at hi
    obtain ⟨rfl, rfl⟩ := y
    exact ⟨Φ0, .refl s2, _, upFrom_get n lo i hi, .int _⟩
  · rw [upFrom_len] at hi
    exact Nat.le_of_eq hi
theorem it_txt (x : Str) : ItOk K Φ (Its x) (x.cps.toList.map fun c => PyData.str ⟨#[c]⟩) := by
  have hl : (x.cps.toList.map fun c => PyData.str ⟨#[c]⟩).length = x.cps.size := by rw [List.length_map, Array.length_toList]
  refine ⟨fun i H s hi => ?_, fun i H Φ0 y H' s1 s2 yl hi => ?_, fun i H s hi => ?_⟩
  · rw [hl] at hi
    exact hi
  · obtain ⟨rfl, c, hc, rfl⟩ := yl
    refine ⟨Φ0, .refl s2, .str ⟨#[c]⟩, ?_, .str _⟩
    rw [List.getElem?_map, Array.getElem?_toList, hc]
    rfl
  · rw [hl] at hi
    exact Nat.le_of_eq hi
theorem enum_len : ∀ (xs : List D) (k : Int), (enumFrom k xs).length = xs.length
  | [], _ => rfl
  | _ :: xs, k => congrArg (· + 1) (enum_len xs (k + 1))
theorem enum_get : ∀ (xs : List D) (k : Int) (i : Nat) (d : D), xs[i]? = some d → (enumFrom k xs)[i]? = some (.tuple [.int (k + i), d])
  | [], _, _, _, h => by simp at h
  | x :: xs, k, 0, d, h => by
    have e := Option.some.inj h
    subst e
    show some (PyData.tuple [.int k, x]) = _
    simp
  | x :: xs, k, i + 1, d, h => by
    show (enumFrom (k + 1) xs)[i]? = _
    rw [enum_get xs (k + 1) i d h]
    have : k + 1 + (i : Int) = k + ((i + 1 : Nat) : Int) := by omega
    rw [this]
theorem it_enum {a : Addr} {vs : List V} {ds : List D} (hs : SqL K Φ a vs) (hd : DpAll K Φ vs ds) : ItOk K Φ (Ite K a) (enumFrom 0 ds) := by
  have hl := dpA_len hd
  refine ⟨fun i H s hi => ?_, fun i H Φ0 x H' s1 s2 y hi => ?_, fun i H s hi => ⟨vs, sqL_up s hs, ?_⟩⟩
  · rw [enum_len] at hi
    exact ⟨vs, vs[i]'(by omega), sqL_up s hs, by simp⟩
  · rw [enum_len] at hi
    obtain ⟨T, z, rfl, nT, rfl, f⟩ := y
    have hx := f vs (sqL_up (s1.trans s2) hs)
    obtain ⟨d, e, q⟩ := dpA_getV hd hx
    refine ⟨_, .new s2 nT, _, enum_get ds 0 i d e, .tup (.inl (.inl upd_same)) ?_⟩
    rw [Int.zero_add]
    exact .cons (.int _) (.cons (dp_up (s1.trans (same_new (same_none s2 nT))) q) .nil)
  · rw [enum_len] at hi
    omega

theorem it_enumT {a : Addr} {vs : List V} {ds : List D} (hs : SqT K Φ a vs) (hd : DpAll K Φ vs ds) : ItOk K Φ (IteT K a) (enumFrom 0 ds) := by
  have hl := dpA_len hd
  refine ⟨fun i H s hi => ?_, fun i H Φ0 x H' s1 s2 y hi => ?_, fun i H s hi => ⟨vs, sqT_up s hs, ?_⟩⟩
  · rw [enum_len] at hi
    exact ⟨vs, vs[i]'(by omega), sqT_up s hs, by simp⟩
  · rw [enum_len] at hi
    obtain ⟨T, z, rfl, nT, rfl, f⟩ := y
    have hx := f vs (sqT_up (s1.trans s2) hs)
    obtain ⟨d, e, q⟩ := dpA_getV hd hx
    refine ⟨_, .new s2 nT, _, enum_get ds 0 i d e, .tup (.inl (.inl upd_same)) ?_⟩
    rw [Int.zero_add]
    exact .cons (.int _) (.cons (dp_up (s1.trans (same_new (same_none s2 nT))) q) .nil)
  · rw [enum_len] at hi
    omega
theorem zip_len : ∀ xs ys : List D, (zipD xs ys).length = min xs.length ys.length
  | [], _ => by simp [zipD]
  | _ :: _, [] => by simp [zipD]
  | x :: xs, y :: ys => by
    show (zipD xs ys).length + 1 = min (xs.length + 1) (ys.length + 1)
    rw [zip_len xs ys]
    omega
theorem zip_get : ∀ (xs ys : List D) (i : Nat) (c d : D), xs[i]? = some c → ys[i]? = some d → (zipD xs ys)[i]? = some (.tuple [c, d])
  | [], _, _, _, _, h, _ => by simp at h
  | _ :: _, [], _, _, _, _, h => by simp at h
  | x :: xs, y :: ys, 0, c, d, h1, h2 => by
    have e1 := Option.some.inj h1
    have e2 := Option.some.inj h2
    subst e1
    subst e2
    rfl
  | x :: xs, y :: ys, i + 1, c, d, h1, h2 => zip_get xs ys i c d h1 h2
theorem it_zip {a b : Addr} {vs us : List V} {ds es : List D} (hs : SqL K Φ a vs) (hd : DpAll K Φ vs ds) (ht : SqL K Φ b us) (he : DpAll K Φ us es) : ItOk K Φ (Itz K a b) (zipD ds es) := by
  have hl := dpA_len hd
  have hm := dpA_len he
  refine ⟨fun i H s hi => ?_, fun i H Φ0 x H' s1 s2 y hi => ?_, fun i H s hi => ⟨vs, us, sqL_up s hs, sqL_up s ht, ?_⟩⟩
  · rw [zip_len] at hi
    exact ⟨vs, us, vs[i]'(by omega), us[i]'(by omega), sqL_up s hs, sqL_up s ht, by simp, by simp⟩
  · rw [zip_len] at hi
    obtain ⟨T, z, z2, rfl, nT, rfl, f, f2⟩ := y
    have hx := f vs (sqL_up (s1.trans s2) hs)
    have hx2 := f2 us (sqL_up (s1.trans s2) ht)
    obtain ⟨d, e, q⟩ := dpA_getV hd hx
    obtain ⟨d2, e2, q2⟩ := dpA_getV he hx2
    have up := s1.trans (same_new (o := .tup [z, z2]) (same_none s2 nT))
    exact ⟨_, .new s2 nT, _, zip_get ds es i d d2 e e2, .tup (.inl (.inl upd_same)) (.cons (dp_up up q) (.cons (dp_up up q2) .nil))⟩
  · rw [zip_len] at hi
    omega
theorem it_zipT {a b : Addr} {vs us : List V} {ds es : List D} (hs : SqT K Φ a vs) (hd : DpAll K Φ vs ds) (ht : SqT K Φ b us) (he : DpAll K Φ us es) : ItOk K Φ (RZ.ItzT K a b) (zipD ds es) := by
  have hl := dpA_len hd
  have hm := dpA_len he
  refine ⟨fun i H s hi => ?_, fun i H Φ0 x H' s1 s2 y hi => ?_, fun i H s hi => ⟨vs, us, sqT_up s hs, sqT_up s ht, ?_⟩⟩
  · rw [zip_len] at hi
    exact ⟨vs, us, vs[i]'(by omega), us[i]'(by omega), sqT_up s hs, sqT_up s ht, by simp, by simp⟩
  · rw [zip_len] at hi
    obtain ⟨T, z, z2, rfl, nT, rfl, f, f2⟩ := y
    have hx := f vs (sqT_up (s1.trans s2) hs)
    have hx2 := f2 us (sqT_up (s1.trans s2) ht)
    obtain ⟨d, e, q⟩ := dpA_getV hd hx
    obtain ⟨d2, e2, q2⟩ := dpA_getV he hx2
    have up := s1.trans (same_new (o := .tup [z, z2]) (same_none s2 nT))
    exact ⟨_, .new s2 nT, _, zip_get ds es i d d2 e e2, .tup (.inl (.inl upd_same)) (.cons (dp_up up q) (.cons (dp_up up q2) .nil))⟩
  · rw [zip_len] at hi
    omega
theorem it_rev {a : Addr} {vs : List V} {ds : List D} (hs : SqL K Φ a vs) (hd : DpAll K Φ vs ds) : ItOk K Φ (Itv K a vs.length) ds.reverse := by
  have hl := dpA_len hd
  refine ⟨fun i H s hi => ?_, fun i H Φ0 x H' s1 s2 y hi => ?_, fun i H s hi => ?_⟩
  · rw [List.length_reverse] at hi
    exact ⟨by omega, vs, vs[vs.length - 1 - i]'(by omega), sqL_up s hs, by simp⟩
  · rw [List.length_reverse] at hi
    obtain ⟨rfl, f⟩ := y
    have hx := f vs (sqL_up (s1.trans s2) hs)
    obtain ⟨d, e, q⟩ := dpA_getV hd hx
    exact ⟨Φ0, .refl s2, d, by rw [List.getElem?_reverse hi, ← hl]; exact e, dp_up s1 q⟩
  · rw [List.length_reverse] at hi
    show vs.length ≤ i
    omega
theorem it_revT {a : Addr} {vs : List V} {ds : List D} (hs : SqT K Φ a vs) (hd : DpAll K Φ vs ds) : ItOk K Φ (RT.ItvT K a vs.length) ds.reverse := by
  have hl := dpA_len hd
  refine ⟨fun i H s hi => ?_, fun i H Φ0 x H' s1 s2 y hi => ?_, fun i H s hi => ?_⟩
  · rw [List.length_reverse] at hi
    exact ⟨by omega, vs, vs[vs.length - 1 - i]'(by omega), sqT_up s hs, by simp⟩
  · rw [List.length_reverse] at hi
    obtain ⟨rfl, f⟩ := y
    have hx := f vs (sqT_up (s1.trans s2) hs)
    obtain ⟨d, e, q⟩ := dpA_getV hd hx
    exact ⟨Φ0, .refl s2, d, by rw [List.getElem?_reverse hi, ← hl]; exact e, dp_up s1 q⟩
  · rw [List.length_reverse] at hi
    show vs.length ≤ i
    omega
theorem down_len : ∀ (n : Nat) (lo : Int), (downFrom lo n).length = n
  | 0, _ => rfl
  | n + 1, lo => congrArg (· + 1) (down_len n (lo - 1))
theorem down_get : ∀ (n : Nat) (lo : Int) (i : Nat), i < n → (downFrom lo n)[i]? = some (.int (lo + i * (-1)))
  | 0, _, _, h => absurd h (Nat.not_lt_zero _)
  | n + 1, lo, 0, _ => by
    show some (PyData.int lo) = _
    simp
  | n + 1, lo, i + 1, h => by
    show (downFrom (lo - 1) n)[i]? = _
    rw [down_get n (lo - 1) i (by omega)]
    congr 2
    omega
theorem it_down (lo : Int) (n : Nat) : ItOk K Φ (Itc lo (-1) n) (downFrom lo n) := by
  refine ⟨fun i H s hi => ?_, fun i H Φ0 x H' s1 s2 y hi => ?_, fun i H s hi => ?_⟩
  · rw [down_len] at hi
    exact hi
  · rw [down_len] at hi
    obtain ⟨rfl, rfl⟩ := y
    exact ⟨Φ0, .refl s2, _, down_get n lo i hi, .int _⟩
  · rw [down_len] at hi
    show n ≤ i
    omega

theorem PEs.star1 {e : Expr} {ts : List TE} (h : PEs X [e] ts) : isStar e = false := by
  cases h
  assumption
theorem PEs.star2 {e f : Expr} {ts : List TE} (h : PEs X [e, f] ts) : isStar e = false ∧ isStar f = false := by
  cases h with
  | cons _ s r => exact ⟨s, r.star1⟩
theorem PEs.stars : ∀ {es : List Expr} {ts : List TE}, PEs X es ts → ∀ e ∈ es, isStar e = false
  | _, _, .nil, _, h => (nomatch h)
  | _, _, .cons _ s r, e, h => by
    rcases List.mem_cons.mp h with z | z
    · rw [z]
      exact s
    · exact r.stars e z
/-! ### the parts of an iterable -/
/-- pairs are taken apart at once -/
def itTg : IK → Expr → Bool
  | .enum, .Tuple _ _ _ => true
  | .zip, .Tuple _ _ _ => true
  | .enum, _ => false
  | .zip, _ => false
  | _, _ => true
def iterArgs (c : Cfg) (k : IK) (e : Expr) : Option (List Expr) :=
  match k, e with
  | .seq, e => some [e]
  | .rng, .Call (.Name f _) [a] [] _ => if decide (f = "range") && bl c f then some [a] else none
  | .rng, .Call (.Name f _) [a, b] [] _ => if decide (f = "range") && bl c f then some [a, b] else none
  | .enum, .Call (.Name f _) [a] [] _ => if decide (f = "enumerate") && bl c f then some [a] else none
  | .zip, .Call (.Name f _) [a, b] [] _ => if decide (f = "zip") && bl c f then some [a, b] else none
  | .rev, .Call (.Name f _) [a] [] _ => if decide (f = "reversed") && bl c f then some [a] else none
  | .rng, .Call (.Name f _) [a, b, d] [] _ => if decide (f = "range") && bl c f then some [a, b, d] else none
  | .txt, e => some [e]
  | _, _ => none
/-- for x in a list or a tuple -/
theorem pi_seq {tg l : Expr} {tl : TE} (hl : PE X l tl) : PI X tg l (fun σ H R => tl σ H fun x H1 => ∃ a, x = .ref a ∧ ((∃ xs, SqL X.K H1 a xs ∧ R (Itl X.K a) H1) ∨ ∃ xs, SqT X.K H1 a xs ∧ R (Itt X.K a) H1)) := by
  refine ⟨fun pins s σ H R I h => ?_⟩
  refine thn (hl.run pins s σ H _ I h) fun v s1 hq => ?_
  obtain ⟨x, H1, I1, r1, a, e, q1⟩ := hq
  subst e
  cases r1
  have fp : ∀ b ∈ [s1.heap.objs.size], FpOk X pins H1 b := fun b hb => by
    rw [List.mem_singleton.mp hb]
    exact I1.fpOk (Nat.le_refl _) (I1.hok.fresh (Nat.le_refl _))
  rcases q1 with ⟨xs, hq, q⟩ | ⟨xs, hq, q⟩
  · obtain ⟨its, rv, p, hz⟩ := I1.list hq
    refine wpAny_pyIter_list p.isList ?_
    exact ⟨s1.heap.objs.size, [s1.heap.objs.size], _, _, H1, rfl, I1.kept (t' := s1.toks) fun b o e => Heap.get?_push_of_some _ e, turn_list a _, ⟨_, Heap.get?_push_size _ rfl, rfl, rfl⟩, fp, q⟩
  · obtain ⟨its, rv, p, hz⟩ := I1.tuple hq
    refine wpAny_pyIter_tuple (show s1.heap.IsTuple a its.toArray from p) ?_
    exact ⟨s1.heap.objs.size, [s1.heap.objs.size], _, _, H1, rfl, I1.kept (t' := s1.toks) fun b o e => Heap.get?_push_of_some _ e, turn_tuple a _, ⟨_, Heap.get?_push_size _ rfl, rfl, rfl⟩, fp, q⟩
theorem rng_ok {i : Int} (h : rngOk i = true) : -(2 ^ 62) ≤ i ∧ i < 2 ^ 62 := by
  unfold rngOk at h
  rw [Bool.and_eq_true, decide_eq_true_iff, decide_eq_true_iff] at h
  exact h
/-- a walk is what the machine does; w: what is wished by the native rule -/
def NatI (X : Cx) (k : IK) (n : Nat) (w : List V → Hp → (It → Hp → Prop) → Prop) : Prop := ∀ vs H R, vs.length = n → RI X.K k vs H R → w vs H R
theorem iter_sound {c : Cfg} (C : Ctx c X) {k : IK} {tg e : Expr} {es : List Expr} {ts : List TE} (h : iterArgs c k e = some es) (ht : itTg k tg = true) (p : PEs X es ts) :
    ∃ w, PI X tg e (fun σ H R => tL ts σ H fun vs H' => w vs H' R) ∧ NatI X k es.length w := by
  unfold iterArgs at h
  split at h
  · cases h
    obtain ⟨t, rfl, h1⟩ := p.one
    refine ⟨fun vs H1 R => match vs with | [x] => ∃ a, x = .ref a ∧ ((∃ xs, SqL X.K H1 a xs ∧ R (Itl X.K a) H1) ∨ ∃ xs, SqT X.K H1 a xs ∧ R (Itt X.K a) H1) | _ => False, pi_seq h1, ?_⟩
    intro vs H R _ hr
    obtain ⟨Φ, ds, items, sb, hd, e1, q⟩ := hr
    cases hd with
    | nil => cases e1
    | cons a r =>
      cases r with
      | cons a2 r2 => cases e1
      | nil =>
        have e1 : seqOf _ = .ok items := e1
        obtain ⟨ad, us, rfl, hs, hu⟩ := seq_of a e1
        refine ⟨ad, rfl, ?_⟩
        rcases hs with hs | hs
        · exact .inl ⟨us, sqL_up sb hs, q _ _ _ (.refl sb) (it_list hs hu)⟩
        · exact .inr ⟨us, sqT_up sb hs, q _ _ _ (.refl sb) (it_tup hs hu)⟩
  · split at h
    · cases h
      rename_i hc
      rw [Bool.and_eq_true, decide_eq_true_iff] at hc
      obtain ⟨hf, hb⟩ := hc
      subst hf
      obtain ⟨g, d, n, m⟩ := C.bl hb
      obtain ⟨t, rfl, h1⟩ := p.one
      have hs := p.star1
      have pq := fun p1 p2 => pi_range1 (tg := tg) (p := p1) (pos := p2) g m p.pa (star_no hs)
      refine ⟨fun vs H1 R => ∃ j : Int, vs = [.int j] ∧ -(2 ^ 62) ≤ j ∧ j < 2 ^ 62 ∧ R (Itr 0 j.toNat) H1, pq _ _, ?_⟩
      intro vs H R hl hr
      obtain ⟨Φ, ds, items, sb, hd, e1, q⟩ := hr
      cases hd with
      | nil => cases e1
      | cons a r =>
        cases r with
        | cons a2 r2 => cases hl
        | nil =>
          cases a with
          | int j =>
            obtain ⟨hz, e1⟩ := guard_bind e1
            cases e1
            obtain ⟨z1, z2⟩ := rng_ok hz
            exact ⟨j, rfl, z1, z2, q _ _ _ (.refl sb) (it_rng _ _)⟩
          | _ => cases e1
    · cases h
  · split at h
    · cases h
      rename_i hc
      rw [Bool.and_eq_true, decide_eq_true_iff] at hc
      obtain ⟨hf, hb⟩ := hc
      subst hf
      obtain ⟨g, d, n, m⟩ := C.bl hb
      obtain ⟨t, u, rfl, h1, h2⟩ := p.two
      have hs := p.star2
      have pq := fun p1 p2 => pi_range2 (tg := tg) (p := p1) (pos := p2) g m p.pa (by rw [star_no hs.1, star_no hs.2]; rfl) (star_no hs.2)
      refine ⟨fun vs H1 R => ∃ i j : Int, vs = [.int i, .int j] ∧ (-(2 ^ 62) ≤ i ∧ i < 2 ^ 62 ∧ -(2 ^ 62) ≤ j ∧ j < 2 ^ 62) ∧ R (Itr i (j - i).toNat) H1, pq _ _, ?_⟩
      intro vs H R hl hr
      obtain ⟨Φ, ds, items, sb, hd, e1, q⟩ := hr
      cases hd with
      | nil => cases e1
      | cons a r =>
        cases r with
        | nil => cases hl
        | cons a2 r2 =>
          cases r2 with
          | cons a3 r3 => cases hl
          | nil =>
            cases a with
            | int i =>
              cases a2 with
              | int j =>
                obtain ⟨hz, e1⟩ := guard_bind e1
                cases e1
                rw [Bool.and_eq_true] at hz
                obtain ⟨z1, z2⟩ := rng_ok hz.1
                obtain ⟨z3, z4⟩ := rng_ok hz.2
                exact ⟨i, j, rfl, ⟨z1, z2, z3, z4⟩, q _ _ _ (.refl sb) (it_rng _ _)⟩
              | _ => cases e1
            | _ => cases e1
    · cases h
  · split at h
    · cases h
      rename_i hc
      rw [Bool.and_eq_true, decide_eq_true_iff] at hc
      obtain ⟨hf, hb⟩ := hc
      subst hf
      obtain ⟨g, d, n, m⟩ := C.bl hb
      obtain ⟨t, rfl, h1⟩ := p.one
      have hs := p.star1
      cases tg with
      | Tuple elts kk tpos =>
        refine ⟨fun vs H1 R => ∃ a xs, vs = [.ref a] ∧ ((SqL X.K H1 a xs ∧ R (Ite X.K a) H1) ∨ (SqT X.K H1 a xs ∧ R (IteT X.K a) H1)), pi_enumA g m p.pa (star_no hs), ?_⟩
        intro vs H R hl hr
        obtain ⟨Φ, ds, items, sb, hd, e1, q⟩ := hr
        cases hd with
        | nil => cases e1
        | cons a r =>
          cases r with
          | cons a2 r2 => cases hl
          | nil =>
            obtain ⟨xs, e2, e3⟩ := Res.bind_eq_ok.mp e1
            cases e3
            obtain ⟨ad, us, rfl, hs, hu⟩ := seq_of a e2
            refine ⟨ad, us, rfl, ?_⟩
            rcases hs with hs | hs
            · exact .inl ⟨sqL_up sb hs, q _ _ _ (.refl sb) (it_enum hs hu)⟩
            · exact .inr ⟨sqT_up sb hs, q _ _ _ (.refl sb) (it_enumT hs hu)⟩
      | _ => cases ht
    · cases h
  · split at h
    · cases h
      rename_i hc
      rw [Bool.and_eq_true, decide_eq_true_iff] at hc
      obtain ⟨hf, hb⟩ := hc
      subst hf
      obtain ⟨g, d, n, m⟩ := C.bl hb
      obtain ⟨t, u, rfl, h1, h2⟩ := p.two
      have hs := p.star2
      cases tg with
      | Tuple elts kk tpos =>
        refine ⟨fun vs H1 R => ∃ a b xs ys, vs = [.ref a, .ref b] ∧ ((SqL X.K H1 a xs ∧ SqL X.K H1 b ys ∧ R (Itz X.K a b) H1) ∨ (SqT X.K H1 a xs ∧ SqT X.K H1 b ys ∧ R (RZ.ItzT X.K a b) H1)), RZ.pi_zipA g m p.pa (star_no hs.1) (by rw [star_no hs.2]; rfl), ?_⟩
        intro vs H R hl hr
        obtain ⟨Φ, ds, items, sb, hd, e1, q⟩ := hr
        cases hd with
        | nil => cases e1
        | cons a r =>
          cases r with
          | nil => cases hl
          | cons a2 r2 =>
            cases r2 with
            | cons a3 r3 => cases hl
            | nil =>
              rename_i v1 d1 v2 d2
              cases d1 with
              | list xs =>
                cases d2 with
                | list ys =>
                  cases e1
                  cases a with
                  | lst q1 q2 =>
                    cases a2 with
                    | lst q3 q4 => exact ⟨_, _, _, _, rfl, .inl ⟨sqL_up sb q1, sqL_up sb q3, q _ _ _ (.refl sb) (it_zip q1 q2 q3 q4)⟩⟩
                | _ => cases e1
              | tuple xs =>
                cases d2 with
                | tuple ys =>
                  cases e1
                  cases a with
                  | tup q1 q2 =>
                    cases a2 with
                    | tup q3 q4 => exact ⟨_, _, _, _, rfl, .inr ⟨sqT_up sb q1, sqT_up sb q3, q _ _ _ (.refl sb) (it_zipT q1 q2 q3 q4)⟩⟩
                | _ => cases e1
              | _ => cases e1
      | _ => cases ht
    · cases h
  · split at h
    · cases h
      rename_i hc
      rw [Bool.and_eq_true, decide_eq_true_iff] at hc
      obtain ⟨hf, hb⟩ := hc
      subst hf
      obtain ⟨g, d, n, m⟩ := C.bl hb
      obtain ⟨t, rfl, h1⟩ := p.one
      have hs := p.star1
      refine ⟨fun vs H1 R => match vs with | [v] => ∃ (a : Addr) (xs : List V), v = .ref a ∧ ((SqL X.K H1 a xs ∧ R (Itv X.K a xs.length) H1) ∨ (SqT X.K H1 a xs ∧ R (RT.ItvT X.K a xs.length) H1)) | _ => False, RT.pi_revA g m h1 (star_no hs), ?_⟩
      intro vs H R hl hr
      obtain ⟨Φ, ds, items, sb, hd, e1, q⟩ := hr
      cases hd with
      | nil => cases e1
      | cons a r =>
        cases r with
        | cons a2 r2 => cases hl
        | nil =>
          obtain ⟨xs, e2, e3⟩ := Res.bind_eq_ok.mp e1
          cases e3
          obtain ⟨ad, us, rfl, hs, hu⟩ := seq_of a e2
          refine ⟨ad, us, rfl, ?_⟩
          rcases hs with hs | hs
          · exact .inl ⟨sqL_up sb hs, q _ _ _ (.refl sb) (it_rev hs hu)⟩
          · exact .inr ⟨sqT_up sb hs, q _ _ _ (.refl sb) (it_revT hs hu)⟩
    · cases h
  · split at h
    · cases h
      rename_i hc
      rw [Bool.and_eq_true, decide_eq_true_iff] at hc
      obtain ⟨hf, hb⟩ := hc
      subst hf
      obtain ⟨g, d, n, m⟩ := C.bl hb
      have hs : ∀ e ∈ [_, _, _], isStar e = false := p.stars
      refine ⟨fun vs H1 R => ∃ (i j c : Int) (n : Nat), vs = [.int i, .int j, .int c] ∧ RgC i j c n ∧ R (Itc i c n) H1, pi_range3 g m p.pa (star_no (hs _ (by simp))) (by rw [star_no (hs _ (by simp)), star_no (hs _ (by simp))]; rfl), ?_⟩
      intro vs H R hl hr
      obtain ⟨Φ, ds, items, sb, hd, e1, q⟩ := hr
      cases hd with
      | nil => cases hl
      | cons a r =>
        cases r with
        | nil => cases hl
        | cons a2 r2 =>
          cases r2 with
          | nil => cases hl
          | cons a3 r3 =>
            cases r3 with
            | cons a4 r4 => cases hl
            | nil =>
              cases a with
              | int i =>
                cases a2 with
                | int j =>
                  cases a3 with
                  | int k =>
                    obtain ⟨hz, e1⟩ := guard_bind e1
                    cases e1
                    rw [Bool.and_eq_true, Bool.and_eq_true, decide_eq_true_iff] at hz
                    obtain ⟨⟨hk, hz1⟩, hz2⟩ := hz
                    subst hk
                    obtain ⟨z1, z2⟩ := rng_ok hz1
                    obtain ⟨z3, z4⟩ := rng_ok hz2
                    exact ⟨i, j, -1, (i - j).toNat, rfl, RgC.neg z1 z2 z3 z4, q _ _ _ (.refl sb) (it_down _ _)⟩
                  | _ => cases e1
                | _ => cases e1
              | _ => cases e1
    · cases h
  · cases h
    obtain ⟨t, rfl, h1⟩ := p.one
    refine ⟨fun vs H1 R => match vs with | [v] => ∃ x, v = .str x ∧ R (Its x) H1 | _ => False, pi_str h1, ?_⟩
    intro vs H R hl hr
    obtain ⟨Φ, ds, items, sb, hd, e1, q⟩ := hr
    cases hd with
    | nil => cases hl
    | cons a r =>
      cases r with
      | cons a2 r2 => cases hl
      | nil =>
        cases a with
        | str x =>
          cases e1
          exact ⟨x, rfl, q _ _ _ (.refl sb) (it_txt x)⟩
        | _ => cases e1
  · cases h
end
end Mir
/-! Mir, part F: readings of expressions simulated by the evaluator. -/
namespace Mir
open PySem PySem.Spec L2

section
variable {K : PySem.W.Frag} {pn : List (Nat × V)} {O O' O1 O2 O3 : List Nat} {cl : Cl}
/-- the reading that asks just what the evaluator tells -/
def tCan (K : PySem.W.Frag) (pn : List (Nat × V)) (O O' : List Nat) (b : Bool) (m : MEnv → Res (D × MEnv)) : TE := fun σ H Q =>
  ∃ (Φ G : Hp) (ε ε' : MEnv) (d : D), Rel K Φ G pn O σ ε H ∧ m ε = .ok (d, ε') ∧ ∀ Φ' H' v, Rel K Φ' G pn O' σ ε' H' → Same Φ Φ' → Out K Φ' G O' σ ε' H' b v d → Q v H'
def tCanT (K : PySem.W.Frag) (pn : List (Nat × V)) (O O' : List Nat) (m : MEnv → Res (D × MEnv)) : TT := fun σ H Q =>
  ∃ (Φ G : Hp) (ε ε' : MEnv) (d : D), Rel K Φ G pn O σ ε H ∧ m ε = .ok (d, ε') ∧ ∀ Φ' H' k, d = .bool k → Rel K Φ' G pn O' σ ε' H' → Same Φ Φ' → Q k H'
theorem sim_can {b : Bool} {m : MEnv → Res (D × MEnv)} : Sim K pn O O' b (tCan K pn O O' b m) m := fun Φ G σ ε ε' H d Q R e q => ⟨Φ, G, ε, ε', d, R, e, q⟩
theorem simT_can {m : MEnv → Res (D × MEnv)} : SimT K pn O O' (tCanT K pn O O' m) m := fun Φ G σ ε ε' H d Q R e q => ⟨Φ, G, ε, ε', d, R, e, q⟩
theorem pe_can {X : Cx} {e : Expr} {t : TE} {b : Bool} {m : MEnv → Res (D × MEnv)} (h : PE X e t) (s : Sim X.K pn O O' b t m) : PE X e (tCan X.K pn O O' b m) :=
  PE.imp h fun σ H Q ⟨Φ, G, ε, ε', d, R, e, q⟩ => s Φ G σ ε ε' H d Q R e q
theorem pt_can {X : Cx} {e : Expr} {t : TT} {m : MEnv → Res (D × MEnv)} (h : PT X e t) (s : SimT X.K pn O O' t m) : PT X e (tCanT X.K pn O O' m) :=
  PT.imp h fun σ H Q ⟨Φ, G, ε, ε', d, R, e, q⟩ => s Φ G σ ε ε' H d Q R e q

theorem Rel.heap {Φ G H H' : Hp} {σ : St} {ε : MEnv} (R : Rel K Φ G pn O σ ε H) (s : Same H H') : Rel K Φ G pn O σ ε H' := by
  refine ⟨R.sub.trans s, R.gsub.trans s, R.gfree, R.len, R.sh, fun i d hi e => ?_, R.inj, R.pin, R.tag⟩
  obtain ⟨v, h1, h2⟩ := R.ow i d hi e
  exact ⟨v, h1, h2.move (Same.refl _) fun a _ _ fa ga hh => ⟨fa, ga, fun o z => s _ _ z⟩⟩
theorem fin_ok {r d : D} {ε ε' : MEnv} (h : fin false r ε = .ok (d, ε')) : d = r ∧ ε' = ε := by
  cases h
  exact ⟨rfl, rfl⟩

/-! ### names and constants -/
theorem sim_const {v : V} {d : D} (h : ∀ Φ, Dp K Φ v d) (n : ∀ ds, d ≠ .list ds) : Sim K pn O O true (tC v) (ev cl false (.c d)) := by
  intro Φ G σ ε ε' H d' Q R e q
  obtain ⟨rfl, rfl⟩ := fin_ok e
  exact q Φ H v R (Same.refl _) (Out.scalar (h _) n)
theorem sim_var (i : Nat) (hn : (i, dTag) ∉ pn) : Sim K pn O (rem i O) false (tVar i) (ev cl false (.v i)) := by
  intro Φ G σ ε ε' H d Q R e q
  obtain ⟨d', h1, e⟩ := Res.bind_eq_ok.mp e
  obtain ⟨rfl, rfl⟩ := fin_ok e
  have hl := look_ok h1
  obtain ⟨v, s1, _⟩ := R.get hl hn
  obtain ⟨Ψ, up, R1, hv⟩ := R.freeze i
  exact ⟨v, s1, q Ψ H v R1 up (.of (hv v ⟨d, hl, s1, trivial⟩ d (R.noD hl hn) hl))⟩
theorem getElem_setNone {l : MEnv} {i j : Nat} {d : D} (h : (l.set i none)[j]? = some (some d)) : j ≠ i ∧ l[j]? = some (some d) := by
  by_cases hj : i = j
  · subst hj
    rw [set_get, if_pos rfl] at h
    split at h <;> cases h
  · rw [List.getElem?_set_ne hj] at h
    exact ⟨Ne.symm hj, h⟩
/-- a slot is emptied -/
theorem Rel.unset {Φ G H : Hp} {σ : St} {ε : MEnv} (R : Rel K Φ G pn O σ ε H) (i : Nat) : Rel K Φ G pn (rem i O) σ (ε.set i none) H := by
  refine ⟨R.sub, R.gsub, R.gfree, by rw [List.length_set]; exact R.len, fun j d hj nd e => ?_, fun j d hj e => ?_, fun j k a hj hk n lj lk => ?_, R.pin, fun j d hd e => R.tag j d hd (getElem_setNone e).2⟩
  · obtain ⟨hji, e⟩ := getElem_setNone e
    exact R.sh j d (fun z => hj (mem_rem.mpr ⟨z, hji⟩)) nd e
  · obtain ⟨hji, e⟩ := getElem_setNone e
    exact R.ow j d (mem_rem.mp hj).1 e
  · obtain ⟨ds, lj, mj⟩ := lj
    obtain ⟨es, lk, mk⟩ := lk
    exact R.inj j k a (mem_rem.mp hj).1 (mem_rem.mp hk).1 n ⟨ds, (getElem_setNone lj).2, mj⟩ ⟨es, (getElem_setNone lk).2, mk⟩
theorem sim_mv {i : Nat} (hi : i ∈ O) (hn : (i, dTag) ∉ pn) : Sim K pn O (rem i O) true (tVar i) (ev cl false (.mv i)) := by
  intro Φ G σ ε ε' H d Q R e q
  obtain ⟨d', h1, e⟩ := Res.bind_eq_ok.mp e
  obtain ⟨rfl, rfl⟩ := fin_ok e
  have hl := look_ok h1
  have nd := R.noD hl hn
  obtain ⟨v, s1, hv⟩ := R.ow i _ hi hl
  refine ⟨v, s1, q Φ H v (R.unset i) (Same.refl _) ?_⟩
  cases d with
  | list ds =>
    obtain ⟨a, rfl, fa, ga, vs, ha, hd⟩ := hv
    refine ⟨a, vs, rfl, ha, fa, ga, fun j hj lj sj => ?_, hd⟩
    obtain ⟨es, lj, mj⟩ := lj
    exact R.inj j i a (mem_rem.mp hj).1 hi (mem_rem.mp hj).2 ⟨es, (getElem_setNone lj).2, mj⟩ ⟨_, hl, rfl⟩ sj s1
  | dict kvs => cases nd
  | _ => exact hv

/-! ### operands -/
theorem simA_nil : SimA K pn O O (tL []) (evA cl []) := by
  intro Φ G σ ε ε' H os Q R e q
  cases e
  exact q Φ H [] R (Same.refl _) .nil
def isO : IE → Bool
  | .o _ => true
  | .od _ => true
  | _ => false
def isOD : IE → Bool
  | .od _ => true
  | _ => false
theorem evA_cons {a : IE} (h : isO a = false) (as : List IE) (ε : MEnv) : evA cl (a :: as) ε = (do let (d, ε1) ← ev cl false a ε; let (os, ε2) ← evA cl as ε1; pure (.val d :: os, ε2)) := by
  cases a <;> first | rfl | cases h
theorem simA_od {i : Nat} {as : List IE} {ts : List TE} (hi : i ∈ O) (h : SimA K pn O O' (tL ts) (evA cl as)) : SimA K pn O O' (tL (tVar i :: ts)) (evA cl (.od i :: as)) := by
  intro Φ G σ ε ε' H os Q R e q
  obtain ⟨d, h1, e⟩ := Res.bind_eq_ok.mp e
  obtain ⟨⟨os1, ε1⟩, h2, e⟩ := Res.bind_eq_ok.mp e
  cases e
  obtain ⟨v, s1, _⟩ := R.ow i _ hi (look_ok h1)
  refine ⟨v, s1, ?_⟩
  exact h Φ G σ ε ε' H os1 _ R h2 fun Φ' H' vs R' s ov => q Φ' H' (v :: vs) R' s (.cons (o := .sl i) s1 ov)
theorem simA_o {i : Nat} {as : List IE} {ts : List TE} (hn : (i, dTag) ∉ pn) (h : SimA K pn O O' (tL ts) (evA cl as)) : SimA K pn O O' (tL (tVar i :: ts)) (evA cl (.o i :: as)) := by
  intro Φ G σ ε ε' H os Q R e q
  obtain ⟨d, h1, e⟩ := Res.bind_eq_ok.mp e
  obtain ⟨⟨os1, ε1⟩, h2, e⟩ := Res.bind_eq_ok.mp e
  cases e
  obtain ⟨v, s1, _⟩ := R.get (look_ok h1) hn
  refine ⟨v, s1, ?_⟩
  exact h Φ G σ ε ε' H os1 _ R h2 fun Φ' H' vs R' s ov => q Φ' H' (v :: vs) R' s (.cons (o := .sl i) s1 ov)
theorem simA_cons {a : IE} {as : List IE} {t : TE} {ts : List TE} {b : Bool} (ha : isO a = false) (s : Sim K pn O O1 b t (ev cl false a)) (h : SimA K pn O1 O' (tL ts) (evA cl as)) : SimA K pn O O' (tL (t :: ts)) (evA cl (a :: as)) := by
  intro Φ G σ ε ε' H os Q R e q
  rw [evA_cons ha] at e
  obtain ⟨⟨d, ε1⟩, h1, e⟩ := Res.bind_eq_ok.mp e
  obtain ⟨⟨os1, ε2⟩, h2, e⟩ := Res.bind_eq_ok.mp e
  cases e
  refine s.shut Φ G σ ε ε1 H d _ R h1 fun Φ1 H1 v R1 s1 o1 => ?_
  exact h Φ1 G σ ε1 ε' H1 os1 _ R1 h2 fun Φ' H' vs R' s2 ov => q Φ' H' (v :: vs) R' (s1.trans s2) (.cons (o := .val d) (o1.up s2) ov)
theorem evA_shape : ∀ {as : List IE} {ε ε' : MEnv} {os : List OV}, evA cl as ε = .ok (os, ε') → os.length = as.length ∧ ∀ (j : Nat) (a : IE), as[j]? = some a → (∀ i, (a = .o i ∨ a = .od i) → os[j]? = some (.sl i)) ∧ (isO a = false → ∃ d, os[j]? = some (.val d))
  | [], ε, ε', os, e => by
    cases e
    exact ⟨rfl, fun j a h => by simp at h⟩
  | a :: as, ε, ε', os, e => by
    by_cases ha : isO a = false
    · rw [evA_cons ha] at e
      obtain ⟨⟨d, ε1⟩, h1, e⟩ := Res.bind_eq_ok.mp e
      obtain ⟨⟨os1, ε2⟩, h2, e⟩ := Res.bind_eq_ok.mp e
      cases e
      obtain ⟨l, ih⟩ := evA_shape h2
      refine ⟨congrArg (· + 1) l, fun j x hx => ?_⟩
      cases j with
      | zero =>
        cases hx
        refine ⟨fun i z => ?_, fun _ => ⟨d, rfl⟩⟩
        rcases z with z | z
        · rw [z] at ha
          cases ha
        · rw [z] at ha
          cases ha
      | succ j => exact ih j x hx
    · cases a with
      | o i =>
        obtain ⟨d, h1, e⟩ := Res.bind_eq_ok.mp e
        obtain ⟨⟨os1, ε1⟩, h2, e⟩ := Res.bind_eq_ok.mp e
        cases e
        obtain ⟨l, ih⟩ := evA_shape h2
        refine ⟨congrArg (· + 1) l, fun j x hx => ?_⟩
        cases j with
        | zero =>
          cases hx
          exact ⟨fun i' z => by rcases z with z | z <;> cases z; rfl, fun z => (nomatch z)⟩
        | succ j => exact ih j x hx
      | od i =>
        obtain ⟨d, h1, e⟩ := Res.bind_eq_ok.mp e
        obtain ⟨⟨os1, ε1⟩, h2, e⟩ := Res.bind_eq_ok.mp e
        cases e
        obtain ⟨l, ih⟩ := evA_shape h2
        refine ⟨congrArg (· + 1) l, fun j x hx => ?_⟩
        cases j with
        | zero =>
          cases hx
          exact ⟨fun i' z => by rcases z with z | z <;> cases z; rfl, fun z => (nomatch z)⟩
        | succ j => exact ih j x hx
      | _ => exact absurd rfl ha
/-- operands that are slots are no dicts' -/
def NoDA (pn : List (Nat × V)) (as : List IE) : Prop := ∀ i, (.o i ∈ as ∨ .od i ∈ as) → (i, dTag) ∉ pn
theorem NoDA.os {as : List IE} {ε ε' : MEnv} {os : List OV} (n : NoDA pn as) (h : evA cl as ε = .ok (os, ε')) : NoDs pn os := fun i hi => by
  obtain ⟨l, sh⟩ := evA_shape h
  obtain ⟨j, hj, e⟩ := List.mem_iff_getElem.mp hi
  have hja : j < as.length := by omega
  have ea : as[j]? = some as[j] := List.getElem?_eq_getElem hja
  have hos : os[j]? = some (.sl i) := by rw [List.getElem?_eq_getElem hj, e]
  obtain ⟨s1, s2⟩ := sh j _ ea
  cases ho : isO as[j] with
  | false =>
    obtain ⟨d, hd⟩ := s2 ho
    rw [hos] at hd
    cases hd
  | true =>
    cases hq : as[j] with
    | o i' =>
      have := s1 i' (.inl hq)
      rw [hos] at this
      cases this
      exact n i (.inl (hq ▸ List.getElem_mem hja))
    | od i' =>
      have := s1 i' (.inr hq)
      rw [hos] at this
      cases this
      exact n i (.inr (hq ▸ List.getElem_mem hja))
    | _ => rw [hq] at ho; cases ho
theorem OvRs.len {Φ : Hp} {σ : St} : ∀ {vs : List V} {os : List OV}, OvRs K Φ σ vs os → vs.length = os.length
  | _, _, .nil => rfl
  | _, _, .cons _ r => congrArg (· + 1) r.len
/-- where no operand is a slot's: values that never change -/
theorem OvRs.vals {Φ : Hp} {σ : St} {ε : MEnv} : ∀ {vs : List V} {os : List OV} {ds : List D}, OvRs K Φ σ vs os → (∀ o ∈ os, ∃ d, o = .val d) → resolve ε os = .ok ds → DpAll K Φ vs ds
  | _, _, _, .nil, _, e => by cases e; exact .nil
  | _, _, _, .cons (o := o) h r, hv, e => by
    obtain ⟨d, h1, e⟩ := Res.bind_eq_ok.mp e
    obtain ⟨ds, h2, e⟩ := Res.bind_eq_ok.mp e
    cases e
    obtain ⟨d', rfl⟩ := hv _ List.mem_cons_self
    cases h1
    exact .cons h (OvRs.vals r (fun o ho => hv o (List.mem_cons_of_mem _ ho)) h2)
theorem evA_vals {as : List IE} {ε ε' : MEnv} {os : List OV} (h : evA cl as ε = .ok (os, ε')) (n : as.all (fun a => !isO a) = true) : ∀ o ∈ os, ∃ d, o = .val d := by
  intro o ho
  obtain ⟨l, sh⟩ := evA_shape h
  obtain ⟨j, hj, rfl⟩ := List.mem_iff_getElem.mp ho
  have hja : j < as.length := by omega
  have hn : isO as[j] = false := by
    have := List.all_eq_true.mp n as[j] (List.getElem_mem hja)
    simpa using this
  obtain ⟨d, e⟩ := (sh j as[j] (by simp [hja])).2 hn
  rw [List.getElem?_eq_getElem hj] at e
  exact ⟨d, Option.some.inj e⟩

/-! ### operations -/
theorem sim_op {op : Pr} {as : List IE} {ts : List TE} (nda : NoDA pn as) (h : SimA K pn O O' (tL ts) (evA cl as)) : Sim K pn O O' (freshOp op) (tV (opR K op) ts) (ev cl false (.p op as)) := by
  intro Φ G σ ε ε' H d Q R e q
  obtain ⟨⟨os, ε1⟩, h1, e⟩ := Res.bind_eq_ok.mp e
  obtain ⟨ds, h2, e⟩ := Res.bind_eq_ok.mp e
  obtain ⟨r, h3, e⟩ := Res.bind_eq_ok.mp e
  obtain ⟨rfl, rfl⟩ := fin_ok e
  refine h Φ G σ ε ε' H os _ R h1 fun Φ' H' vs R' s ov => ?_
  have dr := ov.res R' (nda.os h1) h2
  by_cases hf : freshOp op = true
  · refine opR_mk hf ⟨Φ', ds, d, R'.sub, dr, h3, fun rs er p ws np hd => ?_, fun nl Φ2 H2 w g hw => ?_⟩
    · subst er
      refine q Φ' _ _ (R'.heap (same_new np)) s ?_
      rw [hf]
      exact ⟨p, ws, rfl, upd_same, same_none R'.sub np, same_none R'.gsub np, R'.lone_new np, hd⟩
    · exact q Φ2 H2 w (R'.grow g) (s.trans g.up) (Out.scalar hw nl)
  · cases op <;> first | exact absurd rfl hf | skip
    exact ⟨Φ', ds, d, R'.sub, dr, h3, fun Φ2 H2 w g hw => q Φ2 H2 w (R'.grow g) (s.trans g.up) (.of hw)⟩
theorem sim_disp {t : Bool} {as : List IE} {ts : List TE} (hn : as.all (fun a => !isO a) = true) (h : SimA K pn O O' (tL ts) (evA cl as)) :
    Sim K pn O O' true (if t = true then tTup (tL ts) else tLst (tL ts)) (ev cl false (.disp t as)) := by
  intro Φ G σ ε ε' H d Q R e q
  obtain ⟨⟨os, ε1⟩, h1, e⟩ := Res.bind_eq_ok.mp e
  obtain ⟨ds, h2, e⟩ := Res.bind_eq_ok.mp e
  obtain ⟨hz, e⟩ := guard_bind e
  obtain ⟨rfl, rfl⟩ := fin_ok e
  have hz := fit_le hz
  cases t with
  | true =>
    refine h Φ G σ ε ε' H os _ R h1 fun Φ' H' vs R' s ov => ?_
    have hd := ov.vals (evA_vals h1 hn) h2
    refine ⟨by rw [dpA_len hd]; exact hz, fun p np => ?_⟩
    have g := Grow.new (o := .tup vs) R'.sub np
    exact q _ _ _ (R'.grow g) (s.trans g.up) (Out.scalar (.tup (.inl (.inl upd_same)) (dpA_up g.up hd)) fun _ z => nomatch z)
  | false =>
    refine h Φ G σ ε ε' H os _ R h1 fun Φ' H' vs R' s ov => ?_
    have hd := ov.vals (evA_vals h1 hn) h2
    refine ⟨by rw [dpA_len hd]; exact hz, fun p np => ?_⟩
    exact q Φ' _ _ (R'.heap (same_new np)) s ⟨p, vs, rfl, upd_same, same_none R'.sub np, same_none R'.gsub np, R'.lone_new np, hd⟩

/-! ### slices -/
theorem simA_one {a : IE} {t : TE} {os : List OV} {ε ε' : MEnv} (e : evA cl [a] ε = .ok (os, ε')) : ∃ o, os = [o] := by
  obtain ⟨l, _⟩ := evA_shape e
  match os, l with
  | [o], _ => exact ⟨o, rfl⟩
/-- an end of a slice -/
def SimP (K : PySem.W.Frag) (pn : List (Nat × V)) (O O' : List Nat) (t : TO) (m : MEnv → Res (Option Int × MEnv)) : Prop :=
  ∀ (Φ G : Hp) (σ : St) (ε ε' : MEnv) (H : Hp) (i : Option Int) (Q : Option Int → Hp → Prop), Rel K Φ G pn O σ ε H → m ε = .ok (i, ε') →
    (∀ Φ' H', Rel K Φ' G pn O' σ ε' H' → Same Φ Φ' → Q i H') → t σ H Q
theorem simP_none : SimP K pn O O tNoPart (evP cl []) := by
  intro Φ G σ ε ε' H i Q R e q
  cases e
  exact q Φ H R (Same.refl _)
theorem simP_some {a : IE} {t : TE} {b : Bool} (s : Sim K pn O O' b t (ev cl false a)) : SimP K pn O O' (tPart t) (evP cl [a]) := by
  intro Φ G σ ε ε' H i Q R e q
  obtain ⟨⟨d, ε1⟩, h1, e⟩ := Res.bind_eq_ok.mp e
  obtain ⟨n, h2, e⟩ := Res.bind_eq_ok.mp e
  cases e
  refine s.shut Φ G σ ε ε' H d _ R h1 fun Φ' H' v R' s' o => ?_
  cases d with
  | int j =>
    cases h2
    cases o.dp
    exact ⟨_, rfl, q Φ' H' R' s'⟩
  | _ => cases h2
theorem sim_cut {x : List IE} {lo hi : List IE} {t : TE} {tl th : TO} (nda : NoDA pn x) (hx : x.length = 1) (h : SimA K pn O O1 (tL [t]) (evA cl x)) (hl : SimP K pn O1 O2 tl (evP cl lo)) (hh : SimP K pn O2 O' th (evP cl hi)) :
    Sim K pn O O' true (tSl (RCut K) t tl th) (ev cl false (.cut x lo hi)) := by
  intro Φ G σ ε ε' H d Q R e q
  obtain ⟨⟨os, ε1⟩, h1, e⟩ := Res.bind_eq_ok.mp e
  obtain ⟨⟨l, ε2⟩, h2, e⟩ := Res.bind_eq_ok.mp e
  obtain ⟨⟨u, ε3⟩, h3, e⟩ := Res.bind_eq_ok.mp e
  obtain ⟨ds, h4, e⟩ := Res.bind_eq_ok.mp e
  have lo1 : os.length = 1 := by rw [(evA_shape h1).1, hx]
  match os, lo1, h1, h4 with
  | [o], _, h1, h4 =>
    refine h Φ G σ ε ε1 H [o] (fun vs H1 => match vs with | [v] => tl σ H1 fun l H2 => th σ H2 fun u H3 => RCut K v l u H3 Q | _ => False) R h1 fun Φ1 H1 vs R1 s1 ov => ?_
    cases ov with
    | cons ov on =>
      cases on
      refine hl Φ1 G σ ε1 ε2 H1 l _ R1 h2 fun Φ2 H2 R2 s2 => ?_
      refine hh Φ2 G σ ε2 ε3 H2 u _ R2 h3 fun Φ3 H3 R3 s3 => ?_
      have ov3 := (OvRs.cons ov .nil).up (s2.trans s3)
      have dr0 := ov3.res R3 (nda.os h1) h4
      obtain ⟨d0, rfl, dr⟩ := dr0.one
      obtain ⟨r, h5, e⟩ := Res.bind_eq_ok.mp e
      obtain ⟨rfl, rfl⟩ := fin_ok e
      refine ⟨Φ3, d0, d, R3.sub, dr, h5, fun rs er p ws np hd => ?_, fun nl Φ4 H4 w g hw => ?_⟩
      · subst er
        exact q Φ3 _ _ (R3.heap (same_new np)) (s1.trans (s2.trans s3)) ⟨p, ws, rfl, upd_same, same_none R3.sub np, same_none R3.gsub np, R3.lone_new np, hd⟩
      · exact q Φ4 H4 w (R3.grow g) ((s1.trans (s2.trans s3)).trans g.up) (Out.scalar hw nl)

/-! ### tests -/
theorem tru_of {H : Hp} {v : V} {d : D} {k : Bool} (h : Dp K H v d) (e : truD d = .ok k) : TruV K v H k := by
  cases h with
  | non => cases e; rfl
  | bl b => cases e; rfl
  | int i => cases e; rfl
  | str x =>
    obtain ⟨hz, e⟩ := guard_bind e
    cases e
    exact ⟨fit_le hz, rfl⟩
  | lst hs ha =>
    cases e
    refine .inl ⟨_, hs, ?_⟩
    cases ha <;> rfl
  | tup hs ha =>
    cases e
    refine .inr (.inl ⟨_, hs, ?_⟩)
    cases ha <;> rfl
theorem finT_ok {r d : D} {ε ε' : MEnv} (h : fin true r ε = .ok (d, ε')) : ∃ k, truD r = .ok k ∧ d = .bool k ∧ ε' = ε := by
  obtain ⟨k, h1, e⟩ := Res.bind_eq_ok.mp h
  cases e
  exact ⟨k, h1, rfl, rfl⟩
/-- nodes that are no and, or, not -/
def isAtom : IE → Bool
  | .and _ _ => false
  | .or _ _ => false
  | .not _ => false
  | .o _ => false
  | .chain _ _ _ _ _ => false
  | .chain3 _ _ _ _ _ _ _ => false
  | .din _ _ _ => false
  | _ => true
theorem bind_fin {α : Type} {x : Res α} {f g : α → Res (D × MEnv)} (h : ∀ a, f a = (g a >>= fun p => fin true p.1 p.2)) : (x >>= f) = ((x >>= g) >>= fun p => fin true p.1 p.2) := by
  cases x with
  | ok a => exact h a
  | bad => rfl
theorem ev_atom {e : IE} (h : isAtom e = true) (ε : MEnv) : ev cl true e ε = (ev cl false e ε >>= fun p => fin true p.1 p.2) := by
  cases e with
  | and _ _ => cases h
  | or _ _ => cases h
  | not _ => cases h
  | o _ => cases h
  | chain _ _ _ _ _ => cases h
  | chain3 _ _ _ _ _ _ _ => cases h
  | c d => rfl
  | v i => exact bind_fin fun _ => rfl
  | mv i => exact bind_fin fun _ => rfl
  | p op as => exact bind_fin fun ⟨_, _⟩ => bind_fin fun _ => bind_fin fun _ => rfl
  | call f as outs => exact bind_fin fun ⟨_, _⟩ => bind_fin fun _ => bind_fin fun _ => bind_fin fun ⟨_, _⟩ => bind_fin fun _ => rfl
  | callD f as t => exact bind_fin fun ⟨_, _⟩ => bind_fin fun _ => bind_fin fun ⟨_, _⟩ => bind_fin fun _ => rfl
  | rg t as => exact bind_fin fun ⟨_, _⟩ => bind_fin fun _ => bind_fin fun _ => bind_fin fun _ => rfl
  | ifx t a b => exact bind_fin fun ⟨_, _⟩ => bind_fin fun _ => bind_fin fun ⟨_, _⟩ => rfl
  | comp k as tg cs e => exact bind_fin fun ⟨_, _⟩ => bind_fin fun _ => bind_fin fun _ => bind_fin fun ⟨_, _⟩ => bind_fin fun _ => rfl
  | pop i as => exact bind_fin fun _ => bind_fin fun _ => bind_fin fun ⟨_, _⟩ => bind_fin fun _ => bind_fin fun _ => bind_fin fun _ => bind_fin fun ⟨_, _⟩ => rfl
  | disp t as => exact bind_fin fun ⟨_, _⟩ => bind_fin fun _ => bind_fin fun _ => rfl
  | rep t x k => exact bind_fin fun ⟨_, _⟩ => bind_fin fun ⟨_, _⟩ => bind_fin fun _ => rfl
  | mth op x k => exact bind_fin fun ⟨_, _⟩ => bind_fin fun _ => bind_fin fun ⟨_, _⟩ => bind_fin fun _ => rfl
  | od i => rfl
  | din _ _ _ => cases h
  | dget i k => exact bind_fin fun _ => bind_fin fun ⟨_, _⟩ => bind_fin fun _ => bind_fin fun ⟨_, _⟩ => bind_fin fun _ => bind_fin fun _ => rfl
  | cut x lo hi =>
    refine bind_fin fun ⟨_, _⟩ => bind_fin fun ⟨_, _⟩ => bind_fin fun ⟨_, _⟩ => bind_fin fun ds => ?_
    · cases ds with
      | nil => rfl
      | cons d r =>
        cases r with
        | nil => exact bind_fin fun _ => rfl
        | cons _ _ => rfl
/-- the truth of a value -/
theorem simT_tru {e : IE} {t : TE} {b : Bool} (ha : isAtom e = true) (s : Sim K pn O O' b t (ev cl false e)) : SimT K pn O O' (fun σ H Q => t σ H fun x H' => ∃ k, TruV K x H' k ∧ Q k H') (ev cl true e) := by
  intro Φ G σ ε ε' H d Q R e q
  rw [ev_atom ha] at e
  obtain ⟨⟨r, ε1⟩, h1, e⟩ := Res.bind_eq_ok.mp e
  obtain ⟨k, hk, rfl, rfl⟩ := finT_ok e
  refine s.shut Φ G σ ε ε' H r _ R h1 fun Φ' H' v R' s' o => ?_
  exact ⟨k, tru_of (dp_up R'.sub o.dp) hk, q Φ' H' k rfl R' s'⟩
/-- a value that is a truth, as a test -/
theorem simT_test {e : IE} {t : TE} {b : Bool} (hb : ∀ ε r ε', ev cl false e ε = .ok (r, ε') → ∃ k, r = .bool k) (ha : ∀ ε, ev cl true e ε = ev cl false e ε) (s : Sim K pn O O' b t (ev cl false e)) : SimT K pn O O' (tTest t) (ev cl true e) := by
  intro Φ G σ ε ε' H d Q R e q
  rw [ha] at e
  obtain ⟨k, rfl⟩ := hb _ _ _ e
  refine s.shut Φ G σ ε ε' H _ _ R e fun Φ' H' v R' s' o => ?_
  cases o.dp
  exact ⟨k, rfl, q Φ' H' k rfl R' s'⟩
theorem simT_slot {i : Nat} (hn : (i, dTag) ∉ pn) : SimT K pn O O (fun σ H Q => tVar i σ H fun x H' => ∃ k, TruV K x H' k ∧ Q k H') (ev cl true (.o i)) := by
  intro Φ G σ ε ε' H d Q R e q
  have e : (look ε i >>= fun d => fin true d ε) = .ok (d, ε') := e
  obtain ⟨r, h1, e⟩ := Res.bind_eq_ok.mp e
  obtain ⟨k, hk, rfl, rfl⟩ := finT_ok e
  obtain ⟨v, s1, hv⟩ := R.get (look_ok h1) hn
  exact ⟨v, s1, k, tru_of (hv.dp R.sub) hk, q Φ H k rfl R (Same.refl _)⟩

/-! ### and, or, not, if .. else -/
theorem boolOf_ok {d : D} {k : Bool} (h : boolOf d = .ok k) : d = .bool k := by
  cases d <;> cases h
  rfl
theorem sim_and {a b : IE} {ta tb : TE} {x y : Bool} (sa : Sim K pn O O1 x ta (ev cl false a)) (sb : Sim K pn O1 O2 y tb (ev cl false b)) (w : ∀ i ∈ O2, i ∈ O1) : Sim K pn O O2 false (tAndT K ta tb) (ev cl false (.and a b)) := by
  intro Φ G σ ε ε' H d Q R e q
  obtain ⟨⟨r, ε1⟩, h1, e⟩ := Res.bind_eq_ok.mp e
  obtain ⟨k, h2, e⟩ := Res.bind_eq_ok.mp e
  refine sa.shut Φ G σ ε ε1 H _ _ R h1 fun Φ1 H1 v R1 s1 o => ?_
  refine ⟨k, tru_of (dp_up R1.sub o.dp) h2, ?_⟩
  cases k with
  | true =>
    exact sb.shut Φ1 G σ ε1 ε' H1 d Q R1 e fun Φ2 H2 u R2 s2 o2 => q Φ2 H2 u R2 (s1.trans s2) o2
  | false =>
    cases e
    obtain ⟨Ψ, s2, R2⟩ := R1.weak w
    exact q Ψ H1 _ R2 (s1.trans s2) (.of (o.up s2))
theorem sim_or {a b : IE} {ta tb : TE} {x y : Bool} (sa : Sim K pn O O1 x ta (ev cl false a)) (sb : Sim K pn O1 O2 y tb (ev cl false b)) (w : ∀ i ∈ O2, i ∈ O1) : Sim K pn O O2 false (tOrT K ta tb) (ev cl false (.or a b)) := by
  intro Φ G σ ε ε' H d Q R e q
  obtain ⟨⟨r, ε1⟩, h1, e⟩ := Res.bind_eq_ok.mp e
  obtain ⟨k, h2, e⟩ := Res.bind_eq_ok.mp e
  refine sa.shut Φ G σ ε ε1 H _ _ R h1 fun Φ1 H1 v R1 s1 o => ?_
  refine ⟨k, tru_of (dp_up R1.sub o.dp) h2, ?_⟩
  cases k with
  | false =>
    exact sb.shut Φ1 G σ ε1 ε' H1 d Q R1 e fun Φ2 H2 u R2 s2 o2 => q Φ2 H2 u R2 (s1.trans s2) o2
  | true =>
    cases e
    obtain ⟨Ψ, s2, R2⟩ := R1.weak w
    exact q Ψ H1 _ R2 (s1.trans s2) (.of (o.up s2))
theorem sim_not {a : IE} {ta : TE} {x : Bool} (sa : Sim K pn O O' x ta (ev cl false a)) : Sim K pn O O' false (tNotV ta) (ev cl false (.not a)) := by
  intro Φ G σ ε ε' H d Q R e q
  obtain ⟨⟨r, ε1⟩, h1, e⟩ := Res.bind_eq_ok.mp e
  obtain ⟨k, h2, e⟩ := Res.bind_eq_ok.mp e
  cases boolOf_ok h2
  cases e
  refine sa.shut Φ G σ ε ε' H _ _ R h1 fun Φ1 H1 v R1 s1 o => ?_
  cases o.dp
  exact ⟨k, rfl, q Φ1 H1 _ R1 s1 (.bl _)⟩
theorem simT_and {a b : IE} {ta tb : TT} (sa : SimT K pn O O1 ta (ev cl true a)) (sb : SimT K pn O1 O2 tb (ev cl true b)) (w : ∀ i ∈ O2, i ∈ O1) : SimT K pn O O2 (tAnd ta tb) (ev cl true (.and a b)) := by
  intro Φ G σ ε ε' H d Q R e q
  obtain ⟨⟨r, ε1⟩, h1, e⟩ := Res.bind_eq_ok.mp e
  obtain ⟨k, h2, e⟩ := Res.bind_eq_ok.mp e
  refine sa Φ G σ ε ε1 H _ _ R h1 fun Φ1 H1 k' ek R1 s1 => ?_
  cases ek
  cases h2
  cases k with
  | true =>
    exact sb Φ1 G σ ε1 ε' H1 d Q R1 e fun Φ2 H2 u eu R2 s2 => q Φ2 H2 u eu R2 (s1.trans s2)
  | false =>
    cases e
    obtain ⟨Ψ, s2, R2⟩ := R1.weak w
    exact q Ψ H1 false rfl R2 (s1.trans s2)
theorem simT_or {a b : IE} {ta tb : TT} (sa : SimT K pn O O1 ta (ev cl true a)) (sb : SimT K pn O1 O2 tb (ev cl true b)) (w : ∀ i ∈ O2, i ∈ O1) : SimT K pn O O2 (tOr ta tb) (ev cl true (.or a b)) := by
  intro Φ G σ ε ε' H d Q R e q
  obtain ⟨⟨r, ε1⟩, h1, e⟩ := Res.bind_eq_ok.mp e
  obtain ⟨k, h2, e⟩ := Res.bind_eq_ok.mp e
  refine sa Φ G σ ε ε1 H _ _ R h1 fun Φ1 H1 k' ek R1 s1 => ?_
  cases ek
  cases h2
  cases k with
  | false =>
    exact sb Φ1 G σ ε1 ε' H1 d Q R1 e fun Φ2 H2 u eu R2 s2 => q Φ2 H2 u eu R2 (s1.trans s2)
  | true =>
    cases e
    obtain ⟨Ψ, s2, R2⟩ := R1.weak w
    exact q Ψ H1 true rfl R2 (s1.trans s2)
theorem simT_not {a : IE} {ta : TT} (sa : SimT K pn O O' ta (ev cl true a)) : SimT K pn O O' (tNot ta) (ev cl true (.not a)) := by
  intro Φ G σ ε ε' H d Q R e q
  obtain ⟨⟨r, ε1⟩, h1, e⟩ := Res.bind_eq_ok.mp e
  obtain ⟨k, h2, e⟩ := Res.bind_eq_ok.mp e
  cases boolOf_ok h2
  cases e
  refine sa Φ G σ ε ε' H _ _ R h1 fun Φ1 H1 k' ek R1 s1 => ?_
  cases ek
  exact q Φ1 H1 _ rfl R1 s1
theorem sim_ifx {t a b : IE} {tt : TT} {ta tb : TE} {x y : Bool} (st : SimT K pn O O1 tt (ev cl true t)) (sa : Sim K pn O1 O2 x ta (ev cl false a)) (sb : Sim K pn O1 O3 y tb (ev cl false b)) (w2 : ∀ i ∈ O', i ∈ O2) (w3 : ∀ i ∈ O', i ∈ O3) :
    Sim K pn O O' false (tIf tt ta tb) (ev cl false (.ifx t a b)) := by
  intro Φ G σ ε ε' H d Q R e q
  obtain ⟨⟨r, ε1⟩, h1, e1⟩ := Res.bind_eq_ok.mp e
  obtain ⟨k, h2, e2⟩ := Res.bind_eq_ok.mp e1
  obtain ⟨⟨r2, ε2⟩, h3, e3⟩ := Res.bind_eq_ok.mp e2
  have hb := boolOf_ok h2
  clear e e1 e2 h2
  subst hb
  obtain ⟨rfl, rfl⟩ := fin_ok e3
  refine st Φ G σ ε ε1 H _ _ R h1 fun Φ1 H1 k' ek R1 s1 => ?_
  cases ek
  cases k with
  | true => exact (sa.shut.weak w2) Φ1 G σ ε1 ε' H1 d Q R1 h3 fun Φ2 H2 u R2 s2 o2 => q Φ2 H2 u R2 (s1.trans s2) o2
  | false => exact (sb.shut.weak w3) Φ1 G σ ε1 ε' H1 d Q R1 h3 fun Φ2 H2 u R2 s2 o2 => q Φ2 H2 u R2 (s1.trans s2) o2
/-- a op b op' c -/
theorem sim_chain {o1 o2 : Pr} {a b c : IE} {ta tb tc : TE} {x y z : Bool} (sa : Sim K pn O O1 x ta (ev cl false a)) (sb : Sim K pn O1 O2 y tb (ev cl false b)) (sc : Sim K pn O2 O3 z tc (ev cl false c)) (w : ∀ i ∈ O3, i ∈ O2) :
    Sim K pn O O3 false (tChain (fun x y H Q => RF K (prim o1) [x, y] H Q) (fun x y H Q => RF K (prim o2) [x, y] H Q) ta tb tc) (ev cl false (.chain o1 o2 a b c)) := by
  intro Φ G σ ε ε' H d Q R e q
  obtain ⟨⟨r1, ε1⟩, h1, e1⟩ := Res.bind_eq_ok.mp e
  obtain ⟨⟨r2, ε2⟩, h2, e2⟩ := Res.bind_eq_ok.mp e1
  obtain ⟨r3, h3, e3⟩ := Res.bind_eq_ok.mp e2
  obtain ⟨k, h4, e4⟩ := Res.bind_eq_ok.mp e3
  have hb := boolOf_ok h4
  clear e e1 e2 e3 h4
  subst hb
  refine sa.shut Φ G σ ε ε1 H _ _ R h1 fun Φ1 H1 v1 R1 s1 q1 => ?_
  refine sb.shut Φ1 G σ ε1 ε2 H1 _ _ R1 h2 fun Φ2 H2 v2 R2 s2 q2 => ?_
  have p1 := q1.up s2
  refine ⟨Φ2, [r1, r2], .bool k, R2.sub, .cons (.inl p1) (.cons (.inl q2.dp) .nil), h3, fun _ z => (nomatch z), fun _ Φ3 H3 w3 g hw => ?_⟩
  cases hw
  refine ⟨k, rfl, ?_⟩
  have R3 := R2.grow g
  cases k with
  | true =>
    obtain ⟨⟨r4, ε3⟩, h5, e5⟩ := Res.bind_eq_ok.mp e4
    obtain ⟨r5, h6, e6⟩ := Res.bind_eq_ok.mp e5
    obtain ⟨k2, h7, e7⟩ := Res.bind_eq_ok.mp e6
    have hb := boolOf_ok h7
    clear e4 e5 e6 h7
    subst hb
    cases e7
    refine sc.shut Φ3 G σ ε2 ε' H3 _ _ R3 h5 fun Φ4 H4 v4 R4 s4 q4 => ?_
    refine ⟨Φ4, [r2, r4], .bool k2, R4.sub, .cons (.inl (dp_up (g.up.trans s4) q2.dp)) (.cons (.inl q4.dp) .nil), h6, fun _ z => (nomatch z), fun _ Φ5 H5 w5 g5 hw5 => ?_⟩
    exact q Φ5 H5 w5 (R4.grow g5) ((s1.trans s2).trans ((g.up.trans s4).trans g5.up)) hw5
  | false =>
    cases e4
    obtain ⟨Ψ, s4, R4⟩ := R3.weak w
    exact q Ψ H3 _ R4 ((s1.trans s2).trans (g.up.trans s4)) (.bl _)
/-- a op b op' c op'' d -/
theorem sim_chain3 {o1 o2 o3 : Pr} {a b c d : IE} {ta tb tc td : TE} {x y z u : Bool} {O4 : List Nat} (sa : Sim K pn O O1 x ta (ev cl false a)) (sb : Sim K pn O1 O2 y tb (ev cl false b)) (sc : Sim K pn O2 O3 z tc (ev cl false c)) (sd : Sim K pn O3 O4 u td (ev cl false d)) (w : ∀ i ∈ O4, i ∈ O2) (w3 : ∀ i ∈ O4, i ∈ O3) :
    Sim K pn O O4 false (tChain3 (fun x y H Q => RF K (prim o1) [x, y] H Q) (fun x y H Q => RF K (prim o2) [x, y] H Q) (fun x y H Q => RF K (prim o3) [x, y] H Q) ta tb tc td) (ev cl false (.chain3 o1 o2 o3 a b c d)) := by
  intro Φ G σ ε ε' H dd Q R e q
  obtain ⟨⟨r1, ε1⟩, h1, e1⟩ := Res.bind_eq_ok.mp e
  obtain ⟨⟨r2, ε2⟩, h2, e2⟩ := Res.bind_eq_ok.mp e1
  obtain ⟨r3, h3, e3⟩ := Res.bind_eq_ok.mp e2
  obtain ⟨k, h4, e4⟩ := Res.bind_eq_ok.mp e3
  have hb := boolOf_ok h4
  clear e e1 e2 e3 h4
  subst hb
  refine sa.shut Φ G σ ε ε1 H _ _ R h1 fun Φ1 H1 v1 R1 s1 q1 => ?_
  refine sb.shut Φ1 G σ ε1 ε2 H1 _ _ R1 h2 fun Φ2 H2 v2 R2 s2 q2 => ?_
  have p1 := q1.up s2
  refine ⟨Φ2, [r1, r2], .bool k, R2.sub, .cons (.inl p1) (.cons (.inl q2.dp) .nil), h3, fun _ z => (nomatch z), fun _ Φ3 H3 w3' g hw => ?_⟩
  cases hw
  refine ⟨k, rfl, ?_⟩
  have R3 := R2.grow g
  cases k with
  | true =>
    obtain ⟨⟨r4, ε3⟩, h5, e5⟩ := Res.bind_eq_ok.mp e4
    obtain ⟨r5, h6, e6⟩ := Res.bind_eq_ok.mp e5
    obtain ⟨k2, h7, e7⟩ := Res.bind_eq_ok.mp e6
    have hb := boolOf_ok h7
    clear e4 e5 e6 h7
    subst hb
    refine sc.shut Φ3 G σ ε2 ε3 H3 _ _ R3 h5 fun Φ4 H4 v4 R4 s4 q4 => ?_
    refine ⟨Φ4, [r2, r4], .bool k2, R4.sub, .cons (.inl (dp_up (g.up.trans s4) q2.dp)) (.cons (.inl q4.dp) .nil), h6, fun _ z => (nomatch z), fun _ Φ5 H5 w5 g5 hw5 => ?_⟩
    cases hw5
    refine ⟨k2, rfl, ?_⟩
    have R5 := R4.grow g5
    have up5 := (s1.trans s2).trans ((g.up.trans s4).trans g5.up)
    cases k2 with
    | true =>
      obtain ⟨⟨r6, ε4⟩, h8, e8⟩ := Res.bind_eq_ok.mp e7
      obtain ⟨r7, h9, e9⟩ := Res.bind_eq_ok.mp e8
      obtain ⟨k3, h10, e10⟩ := Res.bind_eq_ok.mp e9
      have hb := boolOf_ok h10
      clear e7 e8 e9 h10
      subst hb
      cases e10
      refine sd.shut Φ5 G σ ε3 ε' H5 _ _ R5 h8 fun Φ6 H6 v6 R6 s6 q6 => ?_
      refine ⟨Φ6, [r4, r6], .bool k3, R6.sub, .cons (.inl (dp_up (g5.up.trans s6) q4.dp)) (.cons (.inl q6.dp) .nil), h9, fun _ z => (nomatch z), fun _ Φ7 H7 w7 g7 hw7 => ?_⟩
      exact q Φ7 H7 w7 (R6.grow g7) (up5.trans (s6.trans g7.up)) hw7
    | false =>
      cases e7
      obtain ⟨Ψ, s6, R6⟩ := R5.weak w3
      exact q Ψ H5 _ R6 (up5.trans s6) (.bl _)
  | false =>
    cases e4
    obtain ⟨Ψ, s4, R4⟩ := R3.weak w
    exact q Ψ H3 _ R4 ((s1.trans s2).trans (g.up.trans s4)) (.bl _)
end
end Mir
/-! Mir, part G: calls of the program's own defs, pop, [x] * k, comprehensions. -/
namespace Mir
open PySem PySem.Spec L2
section
variable {K : PySem.W.Frag} {pn : List (Nat × V)} {O O' O1 O2 O3 : List Nat} {cl : Cl}

/-! ### calls -/
/-- the slots that are handed over to be changed -/
def outsOf (as : List IE) : List Nat → Option (List Nat)
  | [] => some []
  | j :: js => match as[j]? with
    | some (.o i) => (outsOf as js).map (i :: ·)
    | some (.od i) => (outsOf as js).map (i :: ·)
    | _ => none
/-- lists' and dicts' slots where they are due -/
def kindsOk (as : List IE) (muts dsl : List Nat) : Bool := muts.all fun j => match as[j]? with
  | some (.o _) => decide (j ∉ dsl)
  | some (.od _) => decide (j ∈ dsl)
  | _ => false
def restVals (as : List IE) (muts : List Nat) : Bool := (List.range as.length).all fun j => decide (j ∈ muts) || (match as[j]? with | some a => !isO a | none => true)
theorem outsOf_get {as : List IE} : ∀ {muts outs : List Nat}, outsOf as muts = some outs → outs.length = muts.length ∧ ∀ (k j : Nat), muts[k]? = some j → ∃ i : Nat, outs[k]? = some i ∧ (as[j]? = some (.o i) ∨ as[j]? = some (.od i))
  | [], outs, h => by
    cases h
    exact ⟨rfl, fun k j h => by simp at h⟩
  | m :: ms, outs, h => by
    have key : ∀ i, (as[m]? = some (.o i) ∨ as[m]? = some (.od i)) → (outsOf as ms).map (i :: ·) = some outs → outs.length = (m :: ms).length ∧ ∀ (k j : Nat), (m :: ms)[k]? = some j → ∃ i : Nat, outs[k]? = some i ∧ (as[j]? = some (.o i) ∨ as[j]? = some (.od i)) := by
      intro i hi h
      cases hr : outsOf as ms with
      | none =>
        rw [hr] at h
        cases h
      | some r =>
        rw [hr] at h
        cases h
        obtain ⟨l, ih⟩ := outsOf_get hr
        refine ⟨congrArg (· + 1) l, fun k j hk => ?_⟩
        cases k with
        | zero =>
          cases hk
          exact ⟨i, rfl, hi⟩
        | succ k => exact ih k j hk
    unfold outsOf at h
    split at h
    · rename_i i hi
      exact key i (.inl hi) h
    · rename_i i hi
      exact key i (.inr hi) h
    · cases h
theorem isLa_ok {ε : MEnv} {i : Nat} (h : isLa ε i = true) : ∃ d, ε[i]? = some (some d) ∧ isLd d = true := by
  unfold isLa at h
  split at h
  · rename_i d e
    exact ⟨d, e, h⟩
  · cases h
theorem resolve_get {ε : MEnv} : ∀ {os : List OV} {ds : List D}, resolve ε os = .ok ds → ds.length = os.length ∧ ∀ (j : Nat) (o : OV), os[j]? = some o → ∃ d, ds[j]? = some d ∧ resolve1 ε o = .ok d
  | [], ds, e => by
    cases e
    exact ⟨rfl, fun j o h => by simp at h⟩
  | o :: os, ds, e => by
    obtain ⟨d, h1, e⟩ := Res.bind_eq_ok.mp e
    obtain ⟨ds', h2, e⟩ := Res.bind_eq_ok.mp e
    cases e
    obtain ⟨l, ih⟩ := resolve_get h2
    refine ⟨congrArg (· + 1) l, fun j x hx => ?_⟩
    cases j with
    | zero =>
      cases hx
      exact ⟨d, rfl, h1⟩
    | succ j => exact ih j x hx
theorem OvRs.get {Φ : Hp} {σ : St} : ∀ {vs : List V} {os : List OV} {j : Nat} {o : OV}, OvRs K Φ σ vs os → os[j]? = some o → ∃ v, vs[j]? = some v ∧ OvR K Φ σ v o
  | _, _, _, _, .nil, h => by simp at h
  | _, _, 0, _, .cons h r, e => by
    cases e
    exact ⟨_, rfl, h⟩
  | _, _, j + 1, _, .cons h r, e => OvRs.get (j := j) r e
theorem nodup_ix : ∀ {l : List Nat}, l.Nodup → ∀ {j k i : Nat}, l[j]? = some i → l[k]? = some i → j = k
  | [], _, _, _, _, h, _ => by simp at h
  | x :: l, nd, 0, 0, _, _, _ => rfl
  | x :: l, nd, 0, k + 1, i, h1, h2 => by
    cases h1
    exact absurd (List.mem_of_getElem? (show l[k]? = some x from h2)) (List.nodup_cons.mp nd).1
  | x :: l, nd, j + 1, 0, i, h1, h2 => by
    cases h2
    exact absurd (List.mem_of_getElem? (show l[j]? = some x from h1)) (List.nodup_cons.mp nd).1
  | x :: l, nd, j + 1, k + 1, i, h1, h2 => congrArg (· + 1) (nodup_ix (List.nodup_cons.mp nd).2 (show l[j]? = some i from h1) (show l[k]? = some i from h2))

/-! ### tuple(range(..)), list(range(..)) -/
theorem dpA_rg {Φ : Hp} (a : Int) : ∀ n : Nat, DpAll K Φ ((List.range n).map fun i => V.int (a + (i : Nat))) (upFrom a n) := by
  intro n
  induction n generalizing a with
  | zero => exact .nil
  | succ n ih =>
    rw [List.range_succ_eq_map, List.map_cons, List.map_map]
    have e : ((fun i => V.int (a + (i : Nat))) ∘ Nat.succ) = fun (i : Nat) => V.int (a + 1 + (i : Nat)) := funext fun i => by
      show V.int (a + ((i + 1 : Nat) : Int)) = V.int (a + 1 + (i : Int))
      congr 1
      omega
    rw [e]
    have := ih (a + 1)
    refine .cons ?_ this
    show Dp K Φ (V.int (a + ((0 : Nat) : Int))) (.int a)
    rw [show a + ((0 : Nat) : Int) = a by omega]
    exact .int a
def tRgO (t : Bool) (te : St → Hp → (Int → Int → Hp → Prop) → Prop) : TE := if t = true then tTupRg te else tLstRg te
theorem rg_end {t : Bool} {a b : Int} {Φ G H : Hp} {σ : St} {ε : MEnv} {Q : VK} (R : Rel K Φ G pn O σ ε H) (hl : (b - a).toNat ≤ sizeLine) (ha : rngOk a = true) (hb : rngOk b = true)
    (q : ∀ Φ' H' v, Rel K Φ' G pn O σ ε H' → Same Φ Φ' → Out K Φ' G O σ ε H' true v (if t = true then .tuple (upFrom a (b - a).toNat) else .list (upFrom a (b - a).toNat)) → Q v H') :
    RgOk a b ∧ ∀ p, H p = none → Q (.ref p) (upd H p (if t = true then .tup (rgV a b) else .lst (rgV a b))) := by
  unfold rngOk at ha hb
  simp only [Bool.and_eq_true, decide_eq_true_iff] at ha hb
  have hs : sizeLine = 2 ^ 24 := rfl
  refine ⟨⟨ha.1, ha.2, hb.1, hb.2, by rw [← hs]; exact hl⟩, fun p np => ?_⟩
  cases t with
  | true =>
    have g := Grow.new (o := .tup (rgV a b)) R.sub np
    exact q _ _ _ (R.grow g) g.up (Out.scalar (.tup (.inl (.inl upd_same)) (dpA_rg a _)) fun _ z => nomatch z)
  | false => exact q Φ _ _ (R.heap (same_new np)) (Same.refl _) ⟨p, rgV a b, rfl, upd_same, same_none R.sub np, same_none R.gsub np, R.lone_new np, dpA_rg a _⟩
theorem tRgO_run {t : Bool} {te : St → Hp → (Int → Int → Hp → Prop) → Prop} {σ : St} {H : Hp} {Q : VK} (h : te σ H fun a b H1 => RgOk a b ∧ ∀ p, H1 p = none → Q (.ref p) (upd H1 p (if t = true then .tup (rgV a b) else .lst (rgV a b)))) : tRgO t te σ H Q := by
  cases t <;> exact h
theorem sim_rg1 {t : Bool} {as : List IE} {ta : TE} (hl : as.length = 1) (hn : as.all (fun a => !isO a) = true) (h : SimA K pn O O' (tL [ta]) (evA cl as)) : Sim K pn O O' true (tRgO t (tRg1 ta)) (ev cl false (.rg t as)) := by
  intro Φ G σ ε ε' H d Q R e q
  obtain ⟨⟨os, ε1⟩, h1, e⟩ := Res.bind_eq_ok.mp e
  obtain ⟨ds, h2, e⟩ := Res.bind_eq_ok.mp e
  obtain ⟨xs, h3, e⟩ := Res.bind_eq_ok.mp e
  obtain ⟨hz, e⟩ := guard_bind e
  obtain ⟨rfl, rfl⟩ := fin_ok e
  rw [Bool.and_eq_true, decide_eq_true_iff] at hz
  have hzz := fit_le hz.2
  refine tRgO_run (h Φ G σ ε _ H os (fun vs H1 => match vs with | [x] => ∃ n, x = .int n ∧ (RgOk 0 n ∧ ∀ p, H1 p = none → Q (.ref p) (upd H1 p (if t = true then .tup (rgV 0 n) else .lst (rgV 0 n)))) | _ => False) R h1 fun Φ' H' vs R' s ov => ?_)
  have hd := ov.vals (evA_vals h1 hn) h2
  have lv : vs.length = 1 := by rw [ov.len, (evA_shape h1).1, hl]
  match vs, ds, lv, hd with
  | [x], [dx], _, .cons hx .nil =>
    cases dx with
    | int n =>
      cases hx
      obtain ⟨hr, e4⟩ := guard_bind (show (Res.guard (rngOk n) >>= fun _ => Res.ok (upFrom 0 n.toNat)) = .ok xs from h3)
      cases e4
      rw [upFrom_len] at hzz
      have e0 : (n - 0).toNat = n.toNat := by omega
      refine ⟨n, rfl, rg_end R' (by rw [e0]; exact hzz) (by decide) hr fun Φ2 H2 v R2 s2 o => ?_⟩
      rw [e0] at o
      exact q Φ2 H2 v R2 (s.trans s2) o
    | _ => cases h3
theorem sim_rg2 {t : Bool} {as : List IE} {ta tb : TE} (hl : as.length = 2) (hn : as.all (fun a => !isO a) = true) (h : SimA K pn O O' (tL [ta, tb]) (evA cl as)) : Sim K pn O O' true (tRgO t (tRg2 ta tb)) (ev cl false (.rg t as)) := by
  intro Φ G σ ε ε' H d Q R e q
  obtain ⟨⟨os, ε1⟩, h1, e⟩ := Res.bind_eq_ok.mp e
  obtain ⟨ds, h2, e⟩ := Res.bind_eq_ok.mp e
  obtain ⟨xs, h3, e⟩ := Res.bind_eq_ok.mp e
  obtain ⟨hz, e⟩ := guard_bind e
  obtain ⟨rfl, rfl⟩ := fin_ok e
  rw [Bool.and_eq_true, decide_eq_true_iff] at hz
  have hzz := fit_le hz.2
  refine tRgO_run (h Φ G σ ε _ H os (fun vs H1 => match vs with | [x, y] => ∃ i j, x = .int i ∧ y = .int j ∧ (RgOk i j ∧ ∀ p, H1 p = none → Q (.ref p) (upd H1 p (if t = true then .tup (rgV i j) else .lst (rgV i j)))) | _ => False) R h1 fun Φ' H' vs R' s ov => ?_)
  have hd := ov.vals (evA_vals h1 hn) h2
  have lv : vs.length = 2 := by rw [ov.len, (evA_shape h1).1, hl]
  match vs, ds, lv, hd with
  | [x, y], [dx, dy], _, .cons hx (.cons hy .nil) =>
    cases dx with
    | int i =>
      cases dy with
      | int j =>
        cases hx
        cases hy
        obtain ⟨hr, e4⟩ := guard_bind (show (Res.guard (rngOk i && rngOk j) >>= fun _ => Res.ok (upFrom i (j - i).toNat)) = .ok xs from h3)
        cases e4
        rw [Bool.and_eq_true] at hr
        rw [upFrom_len] at hzz
        exact ⟨i, j, rfl, rfl, rg_end R' hzz hr.1 hr.2 fun Φ2 H2 v R2 s2 o => q Φ2 H2 v R2 (s.trans s2) o⟩
      | _ => cases h3
    | _ => cases h3
theorem tL_app : ∀ (ts : List TE) (u : TE) (σ : St) (H : Hp) (Q : List V → Hp → Prop), tL (ts ++ [u]) σ H Q = tL ts σ H (fun vs H1 => u σ H1 fun v H2 => Q (vs ++ [v]) H2) := by
  intro ts u
  induction ts with
  | nil => exact fun σ H Q => rfl
  | cons t ts ih =>
    intro σ H Q
    show t σ H (fun x H1 => tL (ts ++ [u]) σ H1 fun xs H2 => Q (x :: xs) H2) = t σ H (fun x H1 => tL ts σ H1 fun xs H2 => u σ H2 fun v H3 => Q (x :: (xs ++ [v])) H3)
    have : (fun x H1 => tL (ts ++ [u]) σ H1 fun xs H2 => Q (x :: xs) H2) = fun x H1 => tL ts σ H1 fun xs H2 => u σ H2 fun v H3 => Q (x :: (xs ++ [v])) H3 := funext fun x => funext fun H1 => ih σ H1 fun xs H2 => Q (x :: xs) H2
    rw [this]
/-- {} as an operand -/
def tNewD (t : Bool) : TE := if t = true then tGNewT else tDNewK
theorem tNewD_run {t : Bool} {σ : St} {Φ H : Hp} {Q : VK} (q : ∀ p o, H p = none → Held K Φ (upd H p o) p (if t = true then dTD [] else dKD []) → Q (.ref p) (upd H p o)) : tNewD t σ H Q := by
  cases t with
  | false => exact fun p np => q p _ np ⟨_, upd_same, [], rfl, .nil⟩
  | true => exact fun p np => q p _ np ⟨_, upd_same, [], rfl, .nil⟩
theorem sim_callD {f : Nat} {fs : FSig} {as : List IE} {t : Bool} {ts : List TE} (h : SimA K pn O O' (tL ts) (evA cl as)) (hm : fs.muts = [as.length]) (hd : as.length ∈ fs.dsl) (hl : as.length + 1 = fs.ps.length) (hn : as.all (fun a => !isO a) = true) :
    Sim K pn O O' fs.fresh (tV (fun vs H Q => spOf K cl f fs vs H Q E0) (ts ++ [tNewD t])) (ev cl false (.callD f as t)) := by
  intro Φ G σ ε ε' H d Q R e q
  obtain ⟨⟨os, ε1⟩, h1, e1⟩ := Res.bind_eq_ok.mp e
  obtain ⟨ds, h2, e2⟩ := Res.bind_eq_ok.mp e1
  obtain ⟨⟨r, ws⟩, h3, e4⟩ := Res.bind_eq_ok.mp e2
  obtain ⟨hw, e5⟩ := guard_bind e4
  obtain ⟨rfl, rfl⟩ := fin_ok e5
  clear e e1 e2 e4 e5
  rw [Bool.and_eq_true, decide_eq_true_iff] at hw
  obtain ⟨hwl, hwa⟩ := hw
  show tL (ts ++ [tNewD t]) σ H _
  rw [tL_app]
  refine h Φ G σ ε _ H os _ R h1 fun Φ1 H1 vs R1 s1 ov => ?_
  refine tNewD_run (K := K) (Φ := Φ1) fun p o np hh => ?_
  obtain ⟨ln, sh⟩ := evA_shape h1
  obtain ⟨ld, gd⟩ := resolve_get h2
  have lv := ov.len
  have dpa := ov.vals (evA_vals h1 hn) h2
  have fp : Φ1 p = none := same_none R1.sub np
  have lva : vs.length = as.length := by rw [lv, ln]
  have lda : ds.length = as.length := by rw [ld, ln]
  have vp : (vs ++ [V.ref p])[as.length]? = some (.ref p) := by
    rw [List.getElem?_append_right (by omega), lva, Nat.sub_self]
    rfl
  have dpp : (ds ++ [if t = true then dTD [] else dKD []])[as.length]? = some (if t = true then dTD [] else dKD []) := by
    rw [List.getElem?_append_right (by omega), lda, Nat.sub_self]
    rfl
  refine ⟨Φ1, ds ++ [if t = true then dTD [] else dKD []], d, ws, same_put R1.sub fp, by rw [List.length_append, lva]; exact hl, ⟨by rw [List.length_append, List.length_append, lva, lda]; rfl, fun j v d0 hj hv hd0 => ?_, fun j hj => ?_, fun j hj k hk hne => ?_⟩, h3, by rw [hwl, hm]; rfl, fun w hw0 => List.all_eq_true.mp hwa w hw0, fun v Φ2 H2 E => ?_⟩
  · rw [hm, List.mem_singleton] at hj
    have hjl : j < as.length := by
      rcases Nat.lt_or_ge j as.length with z | z
      · exact z
      · rw [List.getElem?_eq_none (by rw [List.length_append, lva, List.length_singleton]; omega)] at hv
        cases hv
    rw [List.getElem?_append_left (by omega)] at hv hd0
    obtain ⟨v', e1, e2⟩ := dpA_get dpa hd0
    rw [hv] at e1
    cases e1
    exact e2
  · rw [hm, List.mem_singleton] at hj
    subst hj
    exact ⟨p, _, vp, dpp, fp, hh, fun _ => hd⟩
  · rw [hm, List.mem_singleton] at hj hk
    exact absurd (hj.trans hk.symm) hne
  · have nm : ∀ a, H1 a ≠ none → ¬ MutA fs.muts (vs ++ [V.ref p]) a := by
      rintro a ha ⟨j, hj, hv⟩
      rw [hm, List.mem_singleton] at hj
      subst hj
      rw [vp] at hv
      cases hv
      exact ha np
    have up1 : ∀ a, H1 a ≠ none → upd H1 p o a = H1 a := fun a ha => upd_ne fun z => ha (z ▸ np)
    have gr : Grow Φ1 H1 Φ2 H2 := ⟨E.up, E.sub, fun a x hx => E.frame a x (by rw [up1 a (by rw [hx]; simp)]; exact hx) (nm a (by rw [hx]; simp)), fun a ha => by
      cases z : Φ1 a with
      | none => exact E.free a (by rw [up1 a ha]; exact ha) z
      | some x => exact E.up a x z⟩
    refine q Φ2 H2 v (R1.grow gr) (s1.trans E.up) ?_
    have res := E.res
    cases hfr : fs.fresh with
    | false =>
      rw [hfr] at res
      exact .of (by cases d <;> exact res)
    | true =>
      rw [hfr] at res
      cases d with
      | list rs =>
        obtain ⟨p', us, rfl, np', hp', fp', hd'⟩ := res
        have n1 : H1 p' = none := by
          cases z : H1 p' with
          | none => rfl
          | some x =>
            rw [up1 p' (by rw [z]; simp), z] at np'
            cases np'
        exact ⟨p', us, rfl, hp', fp', same_none R1.gsub n1, R1.lone_new n1, hd'⟩
      | _ => exact res
theorem sim_call {f : Nat} {fs : FSig} {as : List IE} {outs : List Nat} {ts : List TE} (h : SimA K pn O O' (tL ts) (evA cl as)) (ho : outsOf as fs.muts = some outs) (hr : restVals as fs.muts = true) (nd : outs.Nodup) (nm : fs.muts.Nodup)
    (hO : ∀ i ∈ outs, i ∈ O') (hl : as.length = fs.ps.length) (hk : kindsOk as fs.muts fs.dsl = true) (ho1 : ∀ i, .o i ∈ as → (i, dTag) ∉ pn) (ho2 : ∀ i, .od i ∈ as → (i, dTag) ∈ pn) :
    Sim K pn O O' fs.fresh (tV (fun vs H Q => spOf K cl f fs vs H Q E0) ts) (ev cl false (.call f as outs)) := by
  intro Φ G σ ε ε' H d Q R e q
  obtain ⟨⟨os, ε1⟩, h1, e1⟩ := Res.bind_eq_ok.mp e
  obtain ⟨ds, h2, e2⟩ := Res.bind_eq_ok.mp e1
  obtain ⟨hg, e3⟩ := guard_bind e2
  obtain ⟨⟨r, ws⟩, h3, e4⟩ := Res.bind_eq_ok.mp e3
  obtain ⟨hw, e5⟩ := guard_bind e4
  obtain ⟨rfl, rfl⟩ := fin_ok e5
  clear e e1 e2 e3 e4 e5
  rw [Bool.and_eq_true, decide_eq_true_iff] at hw
  obtain ⟨hwl, hwa⟩ := hw
  refine h Φ G σ ε ε1 H os _ R h1 fun Φ1 H1 vs R1 s1 ov => ?_
  obtain ⟨ln, sh⟩ := evA_shape h1
  obtain ⟨ld, gd⟩ := resolve_get h2
  have lv := ov.len
  obtain ⟨lo, go⟩ := outsOf_get ho
  have kd : ∀ (j i : Nat), j ∈ fs.muts → (as[j]? = some (.o i) ∨ as[j]? = some (.od i)) → ((i, dTag) ∈ pn ↔ j ∈ fs.dsl) := by
    intro j i hj ha
    have q := List.all_eq_true.mp hk j hj
    rcases ha with ha | ha
    · rw [ha] at q
      have q : j ∉ fs.dsl := of_decide_eq_true q
      exact ⟨fun z => absurd z (ho1 i (List.mem_of_getElem? ha)), fun z => absurd z q⟩
    · rw [ha] at q
      have q : j ∈ fs.dsl := of_decide_eq_true q
      exact ⟨fun _ => q, fun _ => ho2 i (List.mem_of_getElem? ha)⟩
  -- the slots handed over
  have slot : ∀ (k j : Nat), fs.muts[k]? = some j → ∃ (i : Nat) (a : Addr) (es : D), outs[k]? = some i ∧ i ∈ O' ∧ ε1[i]? = some (some es) ∧ isLd es = true ∧ σ[i]? = some (some (.ref a)) ∧ vs[j]? = some (V.ref a) ∧ ds[j]? = some es ∧
      Φ1 a = none ∧ G a = none ∧ Held K Φ1 H1 a es ∧ ((i, dTag) ∈ pn ↔ j ∈ fs.dsl) := by
    intro k j hk
    obtain ⟨i, hi, ha⟩ := go k j hk
    have hio : i ∈ outs := List.mem_of_getElem? hi
    obtain ⟨es, el, ml⟩ := isLa_ok (List.all_eq_true.mp hg i hio)
    obtain ⟨v, sv, ow⟩ := R1.ow i _ (hO i hio) el
    obtain ⟨a, rfl, fa, ga, hh⟩ := ow.own ml
    have so : os[j]? = some (.sl i) := by
      rcases ha with ha | ha
      · exact (sh j _ ha).1 i (.inl rfl)
      · exact (sh j _ ha).1 i (.inr rfl)
    obtain ⟨v', hv', ov'⟩ := ov.get so
    have ov' : σ[i]? = some (some v') := ov'
    rw [sv] at ov'
    cases ov'
    obtain ⟨d', hd', rs⟩ := gd j _ so
    have : d' = es := by
      have rs : look ε1 i = .ok d' := rs
      have := look_ok rs
      rw [el] at this
      cases this
      rfl
    subst this
    exact ⟨i, a, d', hi, hO i hio, el, ml, sv, hv', hd', fa, ga, hh, kd j i (List.mem_of_getElem? hk) ha⟩
  have kOf : ∀ j ∈ fs.muts, ∃ k : Nat, fs.muts[k]? = some j := fun j hj => by
    obtain ⟨k, hk, e⟩ := List.mem_iff_getElem.mp hj
    exact ⟨k, by rw [List.getElem?_eq_getElem hk, e]⟩
  refine ⟨Φ1, ds, d, ws, R1.sub, by rw [lv, ln, hl], ⟨by rw [lv, ld], fun j v d0 hj hv hd0 => ?_, fun j hj => ?_, fun j hj k hk hne a h4 h5 => ?_⟩, h3, by rw [hwl, lo], fun w hw0 => List.all_eq_true.mp hwa w hw0, fun v Φ2 H2 E => ?_⟩
  · have hja : j < as.length := by
      rcases Nat.lt_or_ge j vs.length with z | z
      · omega
      · rw [List.getElem?_eq_none z] at hv
        cases hv
    have hn : isO as[j] = false := by
      have := List.all_eq_true.mp hr j (List.mem_range.mpr hja)
      rw [List.getElem?_eq_getElem hja] at this
      simpa [hj] using this
    obtain ⟨d1, so⟩ := (sh j as[j] (by simp [hja])).2 hn
    obtain ⟨v', hv', ov'⟩ := ov.get so
    rw [hv] at hv'
    cases hv'
    obtain ⟨d', hd', rs⟩ := gd j _ so
    rw [hd0] at hd'
    cases hd'
    cases rs
    exact ov'
  · obtain ⟨k, hk⟩ := kOf j hj
    obtain ⟨i, a, es, _, _, el, _, _, hv, hd, fa, _, hh, hkd⟩ := slot k j hk
    exact ⟨a, es, hv, hd, fa, hh, fun z => hkd.mp (R1.tag i es z el)⟩
  · obtain ⟨k1, hk1⟩ := kOf j hj
    obtain ⟨k2, hk2⟩ := kOf k hk
    obtain ⟨i1, a1, es1, o1, m1, l1, q1, s1', v1, _⟩ := slot k1 j hk1
    obtain ⟨i2, a2, es2, o2, m2, l2, q2, s2', v2, _⟩ := slot k2 k hk2
    rw [h4] at v1
    rw [h5] at v2
    cases v1
    cases v2
    have hi : i1 ≠ i2 := fun z => by
      subst z
      have := nodup_ix nd o1 o2
      subst this
      rw [hk1] at hk2
      cases hk2
      exact hne rfl
    exact R1.inj i1 i2 a m1 m2 hi ⟨es1, l1, q1⟩ ⟨es2, l2, q2⟩ s1' s2'
  · -- behind the call
    have notG : ∀ a o, G a = some o → ¬ MutA fs.muts vs a := fun a o ga ⟨j, hj, hv⟩ => by
      obtain ⟨k, hk⟩ := kOf j hj
      obtain ⟨i, a', _, _, _, _, _, _, hv', _, _, ga', _⟩ := slot k j hk
      rw [hv] at hv'
      cases hv'
      rw [ga] at ga'
      cases ga'
    have lenE : (setAll ε1 outs ws).length = σ.length := by rw [setAll_len]; exact R1.len
    -- a slot's new value
    have newv : ∀ (i : Nat), i ∈ outs → ∃ (a : Addr) (es : D), (setAll ε1 outs ws)[i]? = some (some es) ∧ σ[i]? = some (some (.ref a)) ∧ Φ2 a = none ∧ G a = none ∧ Held K Φ2 H2 a es ∧ (isDd es = true → (i, dTag) ∈ pn) := by
      intro i hi
      obtain ⟨k, hk, ek⟩ := List.mem_iff_getElem.mp hi
      have hk1 : outs[k]? = some i := by rw [List.getElem?_eq_getElem hk, ek]
      have hkm : k < fs.muts.length := by omega
      have hj : fs.muts[k]? = some fs.muts[k] := List.getElem?_eq_getElem hkm
      obtain ⟨i', a, es0, o1, _, l1, _, sv, hv, _, fa, ga, ha, hkd⟩ := slot k _ hj
      rw [hk1] at o1
      cases o1
      obtain ⟨a', es, hv', hw', hH, hD⟩ := E.outs k _ hj
      rw [hv] at hv'
      cases hv'
      have il : i < ε1.length := by
        rcases Nat.lt_or_ge i ε1.length with z | z
        · exact z
        · rw [List.getElem?_eq_none z] at l1
          cases l1
      refine ⟨a, es, ?_, sv, E.free a ha.ne fa, ga, hH, fun z => hkd.mpr (hD z)⟩
      rw [setAll_at nd hk1 (by omega) il, hw']
    have isl : ∀ i, IsL (setAll ε1 outs ws) i → IsL ε1 i := fun i hL => by
      by_cases hi : i ∈ outs
      · exact isLa_ok (List.all_eq_true.mp hg i hi)
      · obtain ⟨ds, el, ml⟩ := hL
        rw [setAll_ne hi] at el
        exact ⟨ds, el, ml⟩
    have R2 : Rel K Φ2 G pn O' σ (setAll ε1 outs ws) H2 := by
      refine ⟨E.sub, fun a o ga => E.frame a o (R1.gsub a o ga) (notG a o ga), fun a ga => ?_, lenE, fun i d0 hi nd0 el => ?_, fun i d0 hi el => ?_, fun i j a hi hj hne li lj => R1.inj i j a hi hj hne (isl i li) (isl j lj), R1.pin, fun i d0 hd0 el => ?_⟩
      · exact E.free a (fun z => ga (R1.gsub.free z)) (R1.gfree a ga)
      · have hn : i ∉ outs := fun z => hi (hO i z)
        rw [setAll_ne hn] at el
        obtain ⟨v0, z1, z2⟩ := R1.sh i d0 hi nd0 el
        exact ⟨v0, z1, dp_up E.up z2⟩
      · by_cases hio : i ∈ outs
        · obtain ⟨a, es, el', sv, fa, ga, hh, _⟩ := newv i hio
          rw [el] at el'
          cases el'
          exact ⟨.ref a, sv, .of rfl fa ga hh⟩
        · rw [setAll_ne hio] at el
          obtain ⟨v0, z1, z2⟩ := R1.ow i d0 hi el
          refine ⟨v0, z1, z2.move E.up fun a ea la fa ga hh => ⟨E.free a hh.ne fa, ga, fun o z => E.frame a _ z ?_⟩⟩
          subst ea
          rintro ⟨j, hj, hv⟩
          obtain ⟨k, hk⟩ := kOf j hj
          obtain ⟨i', a', es', o1, m1, l1, q1, sv, hv', _⟩ := slot k j hk
          rw [hv] at hv'
          cases hv'
          have hii : i' ≠ i := fun z => hio (z ▸ List.mem_of_getElem? o1)
          exact R1.inj i' i a m1 hi hii ⟨es', l1, q1⟩ ⟨d0, el, la⟩ sv z1
      · by_cases hio : i ∈ outs
        · obtain ⟨a, es, el', _, _, _, _, ht⟩ := newv i hio
          rw [el] at el'
          cases el'
          exact ht hd0
        · rw [setAll_ne hio] at el
          exact R1.tag i d0 hd0 el
    refine q Φ2 H2 v R2 (s1.trans E.up) ?_
    have res := E.res
    cases hfr : fs.fresh with
    | false =>
      rw [hfr] at res
      exact .of (by cases d <;> exact res)
    | true =>
      rw [hfr] at res
      cases d with
      | list rs =>
        obtain ⟨p, us, rfl, np, hp, fp, hd⟩ := res
        refine ⟨p, us, rfl, hp, fp, same_none R1.gsub np, fun i hi li si => ?_, hd⟩
        obtain ⟨es, el, ml⟩ := isl i li
        obtain ⟨v0, z1, z2⟩ := R1.ow i _ hi el
        obtain ⟨a, rfl, _, _, hh⟩ := z2.own ml
        rw [si] at z1
        cases z1
        exact hh.ne np
      | _ => exact res
end
end Mir
/-! Mir, part H: targets, comprehensions. -/
namespace Mir
open PySem PySem.Spec L2
section
variable {K : PySem.W.Frag} {pn : List (Nat × V)} {O O' O1 O2 O3 Os : List Nat} {cl : Cl}

/-! ### slots forgotten -/
theorem wipe_get (σ : St) : ∀ (vs : List Nat) (j : Nat), (wipe σ vs)[j]? = if j ∈ vs then (if j < σ.length then some none else none) else σ[j]?
  | [], j => by simp [wipe]
  | v :: vs, j => by
    unfold wipe
    rw [set_get, wipe_length, wipe_get σ vs j]
    by_cases h : v = j
    · subst h
      simp
    · have h' : j ≠ v := Ne.symm h
      simp [h, h']
theorem wipeE_len (ε : MEnv) : ∀ vs : List Nat, (wipeE ε vs).length = ε.length
  | [] => rfl
  | v :: vs => by
    unfold wipeE
    rw [List.length_set, wipeE_len ε vs]
theorem wipeE_get (ε : MEnv) : ∀ (vs : List Nat) (j : Nat), (wipeE ε vs)[j]? = if j ∈ vs then (if j < ε.length then some none else none) else ε[j]?
  | [], j => by simp [wipeE]
  | v :: vs, j => by
    unfold wipeE
    rw [set_get, wipeE_len, wipeE_get ε vs j]
    by_cases h : v = j
    · subst h
      simp
    · have h' : j ≠ v := Ne.symm h
      simp [h, h']
theorem backE_len (ε0 ε : MEnv) : ∀ vs : List Nat, (backE ε0 ε vs).length = ε.length
  | [] => rfl
  | v :: vs => by
    unfold backE
    rw [List.length_set, backE_len ε0 ε vs]
theorem backE_get (ε0 ε : MEnv) : ∀ (vs : List Nat) (j : Nat), (backE ε0 ε vs)[j]? = if j ∈ vs then (if j < ε.length then some (ε0[j]?.getD none) else none) else ε[j]?
  | [], j => by simp [backE]
  | v :: vs, j => by
    unfold backE
    rw [set_get, backE_len, backE_get ε0 ε vs j]
    by_cases h : v = j
    · subst h
      simp
    · have h' : j ≠ v := Ne.symm h
      simp [h, h']
theorem wipe_congr {σ1 σ2 : St} {vs : List Nat} (hl : σ2.length = σ1.length) (h : ∀ j, j ∉ vs → σ2[j]? = σ1[j]?) : wipe σ2 vs = wipe σ1 vs := by
  apply List.ext_getElem?
  intro j
  rw [wipe_get, wipe_get, hl]
  by_cases hj : j ∈ vs
  · rw [if_pos hj, if_pos hj]
  · rw [if_neg hj, if_neg hj]
    exact h j hj
theorem wipe_wipe (σ : St) (vs : List Nat) : wipe (wipe σ vs) vs = wipe σ vs := by
  refine wipe_congr (wipe_length σ vs) fun j hj => ?_
  rw [wipe_get, if_neg hj]
theorem Rel.wipe {Φ G H : Hp} {σ : St} {ε : MEnv} (R : Rel K Φ G pn O σ ε H) {vs : List Nat} (hp : ∀ p ∈ pn, p.1 ∉ vs) : Rel K Φ G pn O (wipe σ vs) (wipeE ε vs) H := by
  have get : ∀ {j : Nat} {d : D}, (wipeE ε vs)[j]? = some (some d) → j ∉ vs ∧ ε[j]? = some (some d) := by
    intro j d h
    rw [wipeE_get] at h
    by_cases hj : j ∈ vs
    · rw [if_pos hj] at h
      split at h <;> cases h
    · rw [if_neg hj] at h
      exact ⟨hj, h⟩
  have sg : ∀ {j : Nat}, j ∉ vs → (L2.wipe σ vs)[j]? = σ[j]? := fun hj => by rw [wipe_get, if_neg hj]
  refine ⟨R.sub, R.gsub, R.gfree, by rw [wipeE_len, wipe_length]; exact R.len, fun j d hj nd e => ?_, fun j d hj e => ?_, fun j k a hj hk n lj lk sj sk => ?_, fun p hp' nt => ?_, fun j d hd e => R.tag j d hd (get e).2⟩
  · obtain ⟨n, e⟩ := get e
    rw [sg n]
    exact R.sh j d hj nd e
  · obtain ⟨n, e⟩ := get e
    rw [sg n]
    exact R.ow j d hj e
  · obtain ⟨ds, lj, mj⟩ := lj
    obtain ⟨es, lk, mk⟩ := lk
    obtain ⟨nj, lj⟩ := get lj
    obtain ⟨nk, lk⟩ := get lk
    rw [sg nj] at sj
    rw [sg nk] at sk
    exact R.inj j k a hj hk n ⟨ds, lj, mj⟩ ⟨es, lk, mk⟩ sj sk
  · rw [sg (hp p hp')]
    exact R.pin p hp' nt

/-! ### an object of another's -/
theorem Rel.addG {Φ G H : Hp} {σ : St} {ε : MEnv} (R : Rel K Φ G pn O σ ε H) {p : Addr} {o : HO} (np : H p = none) : Rel K Φ (upd G p o) pn O σ ε (upd H p o) := by
  have R' := R.heap (same_new (o := o) np)
  refine ⟨R'.sub, same_upd2 R.gsub, fun a ha => ?_, R'.len, R'.sh, fun i d hi e => ?_, R'.inj, R'.pin, R'.tag⟩
  · by_cases h : a = p
    · subst h
      exact same_none R.sub np
    · rw [upd_ne h] at ha
      exact R.gfree a ha
  · obtain ⟨v, h1, h2⟩ := R.ow i d hi e
    refine ⟨v, h1, h2.move (Same.refl _) fun a _ _ fa ga hh => ?_⟩
    have : a ≠ p := fun z => by
      subst z
      exact hh.ne np
    exact ⟨fa, by rw [upd_ne this]; exact ga, fun o' z => by rw [upd_ne this]; exact z⟩
theorem Rel.putG {Φ G H : Hp} {σ : St} {ε : MEnv} {p : Addr} {o o' : HO} (R : Rel K Φ (upd G p o) pn O σ ε H) : Rel K Φ (upd G p o') pn O σ ε (upd H p o') := by
  have fp : Φ p = none := R.gfree p (by rw [upd_same]; simp)
  refine ⟨same_put R.sub fp, fun a x h => ?_, fun a ha => ?_, R.len, R.sh, fun i d hi e => ?_, R.inj, R.pin, R.tag⟩
  · by_cases z : a = p
    · subst z
      rw [upd_same] at h ⊢
      exact h
    · rw [upd_ne z] at h ⊢
      exact R.gsub a x (by rw [upd_ne z]; exact h)
  · by_cases z : a = p
    · subst z
      exact fp
    · rw [upd_ne z] at ha
      exact R.gfree a (by rw [upd_ne z]; exact ha)
  · obtain ⟨v, h1, h2⟩ := R.ow i d hi e
    refine ⟨v, h1, h2.move (Same.refl _) fun a _ _ fa ga hh => ?_⟩
    have : a ≠ p := fun z => by
      subst z
      rw [upd_same] at ga
      cases ga
    exact ⟨fa, by rw [upd_ne this] at ga ⊢; exact ga, fun o' z => by rw [upd_ne this]; exact z⟩
/-- what was another's is nobody's -/
theorem Rel.subG {Φ G H : Hp} {σ : St} {ε : MEnv} {p : Addr} {o : HO} (R : Rel K Φ (upd G p o) pn O σ ε H) (gp : G p = none) : Rel K Φ G pn O σ ε H ∧ H p = some o ∧ Φ p = none ∧ Lone O σ ε p := by
  have sg : Same G (upd G p o) := same_new gp
  have ng : ∀ a, upd G p o a = none → G a = none := fun a h => by
    by_cases z : a = p
    · subst z
      exact gp
    · rw [upd_ne z] at h
      exact h
  refine ⟨⟨R.sub, sg.trans R.gsub, fun a ha => R.gfree a fun z => ha (ng a z), R.len, R.sh, fun i d hi e => ?_, R.inj, R.pin, R.tag⟩, R.gsub p o upd_same, R.gfree p (by rw [upd_same]; simp), fun i hi li si => ?_⟩
  · obtain ⟨v, h1, h2⟩ := R.ow i d hi e
    exact ⟨v, h1, h2.move (Same.refl _) fun a _ _ fa ga hh => ⟨fa, ng a ga, fun _ z => z⟩⟩
  · obtain ⟨ds, el, ml⟩ := li
    obtain ⟨v, h1, h2⟩ := R.ow i _ hi el
    obtain ⟨a, rfl, _, ga, _⟩ := h2.own ml
    rw [si] at h1
    cases h1
    rw [upd_same] at ga
    cases ga

/-! ### targets -/
def remL (is O : List Nat) : List Nat := O.filter fun j => decide (j ∉ is)
theorem mem_remL {is O : List Nat} {j : Nat} : j ∈ remL is O ↔ j ∈ O ∧ j ∉ is := by
  unfold remL
  rw [List.mem_filter, decide_eq_true_iff]
/-- the slots that a target writes hold what is written -/
def SimG (K : PySem.W.Frag) (pn : List (Nat × V)) (tg : Tg) (g : TG) : Prop :=
  ∀ (O : List Nat) (Φ G : Hp) (σ : St) (ε ε' : MEnv) (H : Hp) (x : V) (d : D) (Q : St → Hp → Prop), Rel K Φ G pn O σ ε H → Dp K Φ x d → setTg tg d ε = .ok ε' →
    (∀ σ', Rel K Φ G pn (remL tg.slots O) σ' ε' H → σ'.length = σ.length → (∀ j, j ∉ tg.slots → σ'[j]? = σ[j]?) → Q σ' H) → g x σ H Q
theorem simG_nm {i : Nat} (hp : ∀ p ∈ pn, p.1 ≠ i) : SimG K pn (.nm i) (gName i) := by
  intro O Φ G σ ε ε' H x d Q R hd e q
  cases e
  refine q _ ((R.set hp hd).congr fun j => ?_) (by rw [List.length_set]) fun j hj => ?_
  · rw [mem_rem, mem_remL]
    simp [Tg.slots]
  · rw [List.getElem?_set_ne]
    intro z
    exact hj (by simp [Tg.slots, z])
/-- names in a row -/
def gNames : List Nat → TGs
  | [] => gNil
  | i :: is => gCons (gName i) (gNames is)
theorem simG_names : ∀ {is : List Nat} {O : List Nat} {Φ G : Hp} {σ : St} {ε : MEnv} {H : Hp} {xs : List V} {ds : List D} {Q : St → Hp → Prop}, (∀ p ∈ pn, p.1 ∉ is) → Rel K Φ G pn O σ ε H → DpAll K Φ xs ds → ds.length = is.length →
    (∀ σ', Rel K Φ G pn (remL is O) σ' (setAll ε is ds) H → σ'.length = σ.length → (∀ j, j ∉ is → σ'[j]? = σ[j]?) → Q σ' H) → gNames is xs σ H Q
  | [], O, Φ, G, σ, ε, H, xs, ds, Q, _, R, hd, hl, q => by
    cases hd with
    | cons _ _ => cases hl
    | nil => exact ⟨rfl, q σ (R.congr fun j => by rw [mem_remL]; simp) rfl fun _ _ => rfl⟩
  | i :: is, O, Φ, G, σ, ε, H, xs, ds, Q, hp, R, hd, hl, q => by
    cases hd with
    | nil => cases hl
    | cons h r =>
      refine ⟨_, _, rfl, ?_⟩
      have R1 := R.set (i := i) (fun p hp' z => hp p hp' (by simp [z])) h
      refine simG_names (is := is) (fun p hp' z => hp p hp' (List.mem_cons_of_mem _ z)) R1 r (by simpa using hl) fun σ' R' l' f' => ?_
      refine q σ' (R'.congr fun j => ?_) (by rw [l', List.length_set]) fun j hj => ?_
      · rw [mem_remL, mem_remL, mem_rem, List.mem_cons, not_or]
        exact ⟨fun ⟨⟨a, b⟩, c⟩ => ⟨a, b, c⟩, fun ⟨a, b, c⟩ => ⟨⟨a, b⟩, c⟩⟩
      · rw [List.mem_cons, not_or] at hj
        rw [f' j hj.2, List.getElem?_set_ne (Ne.symm hj.1)]
/-- a tuple or a list unpacked -/
def gSeq (K : PySem.W.Frag) (n : Nat) (t : TGs) : TG := fun v σ H Q => gTup K n t v σ H Q ∨ gUnl K n t v σ H Q
theorem pg_seq {X : Cx} {e : Expr} {n : Nat} {t : TGs} (h1 : PG X e (gTup X.K n t)) (h2 : PG X e (gUnl X.K n t)) : PG X e (gSeq X.K n t) := ⟨fun pins s σ H v u Q I r hw => by
  rcases hw with hw | hw
  · exact h1.run pins s σ H v u Q I r hw
  · exact h2.run pins s σ H v u Q I r hw⟩
theorem simG_tp {is : List Nat} (hp : ∀ p ∈ pn, p.1 ∉ is) : SimG K pn (.tp is) (gSeq K is.length (gNames is)) := by
  intro O Φ G σ ε ε' H x d Q R hd e q
  cases d with
  | tuple ds =>
    have e : (if ds.length = is.length then Res.ok (setAll ε is ds) else .bad) = .ok ε' := e
    split at e
    · cases e
      rename_i hl
      cases hd with
      | tup hs ha => exact .inl ⟨_, _, rfl, sqT_up R.sub hs, by rw [dpA_len ha]; exact hl, simG_names hp R ha hl q⟩
    · cases e
  | list ds =>
    have e : (if ds.length = is.length then Res.ok (setAll ε is ds) else .bad) = .ok ε' := e
    split at e
    · cases e
      rename_i hl
      cases hd with
      | lst hs ha => exact .inr ⟨_, _, rfl, sqL_up R.sub hs, by rw [dpA_len ha]; exact hl, simG_names hp R ha hl q⟩
    · cases e
  | _ => cases e

/-! ### comprehensions -/
theorem compM_cons {f : D → MEnv → Res (Option D × MEnv)} {x : D} {xs ys : List D} {ε ε2 : MEnv} (h : compM f (x :: xs) ε = .ok (ys, ε2)) : ∃ o ε1 zs, f x ε = .ok (o, ε1) ∧ compM f xs ε1 = .ok (zs, ε2) ∧ ys = o.toList ++ zs := by
  obtain ⟨⟨o, ε1⟩, h1, e⟩ := Res.bind_eq_ok.mp h
  obtain ⟨⟨zs, ε3⟩, h2, e⟩ := Res.bind_eq_ok.mp e
  cases e
  exact ⟨o, ε1, zs, h1, h2, rfl⟩
/-- the tests of a clause -/
def SimTs (K : PySem.W.Frag) (pn : List (Nat × V)) (O O' : List Nat) (t : TT) (m : MEnv → Res (Bool × MEnv)) : Prop :=
  ∀ (Φ G : Hp) (σ : St) (ε ε' : MEnv) (H : Hp) (k : Bool) (Q : Bool → Hp → Prop), Rel K Φ G pn O σ ε H → m ε = .ok (k, ε') →
    (∀ Φ' H', Rel K Φ' G pn O' σ ε' H' → Same Φ Φ' → Q k H') → t σ H Q
theorem simTs_nil : SimTs K pn O O tYes (evTs cl []) := by
  intro Φ G σ ε ε' H k Q R e q
  cases e
  exact q Φ H R (Same.refl _)
theorem simTs_one {c : IE} {t : TT} (s : SimT K pn O O' t (ev cl true c)) : SimTs K pn O O' t (evTs cl [c]) := by
  intro Φ G σ ε ε' H k Q R e q
  obtain ⟨⟨x, ε1⟩, h1, e1⟩ := Res.bind_eq_ok.mp e
  obtain ⟨k1, h2, e2⟩ := Res.bind_eq_ok.mp e1
  have hb := boolOf_ok h2
  clear e e1 h2
  subst hb
  refine s Φ G σ ε ε1 H _ _ R h1 fun Φ1 H1 k' ek R1 s1 => ?_
  cases ek
  cases k1 with
  | true =>
    cases e2
    exact q Φ1 H1 R1 s1
  | false =>
    cases e2
    exact q Φ1 H1 R1 s1
def compF (cl : Cl) (tg : Tg) (cs : List IE) (e : IE) : D → MEnv → Res (Option D × MEnv) := fun x ε => do
  let ε3 ← setTg tg x (wipeE ε tg.slots)
  let (b, ε4) ← evTs cl cs ε3
  if b = true then do
    let (y, ε5) ← ev cl false e ε4
    pure (some y, ε5)
  else pure (none, ε4)
theorem sim_comp {X : Cx} {k : IK} {as cs : List IE} {tg : Tg} {e : IE} {ts : List TE} {w : List V → Hp → (It → Hp → Prop) → Prop} {g : TG} {tt : TT} {te : TE} {b : Bool} (hK : X.K = K)
    (h : SimA K pn O O1 (tL ts) (evA cl as)) (hn : as.all (fun a => !isO a) = true) (hw : NatI X k as.length w) (hg : SimG K pn tg g) (ht : SimTs K pn Os O2 tt (evTs cl cs)) (he : Sim K pn O2 O3 b te (ev cl false e))
    (hs1 : ∀ i ∈ Os, i ∈ O1) (hs2 : ∀ i ∈ Os, i ∈ O2) (hs3 : ∀ i ∈ Os, i ∈ O3) (hd : ∀ i ∈ Os, i ∉ tg.slots) (hp : ∀ p ∈ pn, p.1 ∉ tg.slots) :
    Sim K pn O Os true (tLc (fun σ H R => tL ts σ H fun vs H' => w vs H' R) g tt te tg.slots) (ev cl false (.comp k as tg cs e)) := by
  intro Φ G σ ε ε' H d Q R e0 q
  obtain ⟨⟨os, ε1⟩, h1, e1⟩ := Res.bind_eq_ok.mp e0
  obtain ⟨ds, h2, e2⟩ := Res.bind_eq_ok.mp e1
  obtain ⟨items, h3, e3⟩ := Res.bind_eq_ok.mp e2
  obtain ⟨⟨ys, ε2⟩, h4, e4⟩ := Res.bind_eq_ok.mp e3
  obtain ⟨hz, e5⟩ := guard_bind e4
  obtain ⟨rfl, rfl⟩ := fin_ok e5
  clear e0 e1 e2 e3 e4 e5
  have hz := fit_le hz
  have h4 : compM (compF cl tg cs e) items ε1 = .ok (ys, ε2) := h4
  refine h Φ G σ ε ε1 H os _ R h1 fun Φ1 H1 vs R1 s1 ov => ?_
  refine hw vs H1 _ (by rw [ov.len, (evA_shape h1).1]) ⟨Φ1, ds, items, R1.sub, by rw [hK]; exact ov.vals (evA_vals h1 hn) h2, h3, fun J Φ2 H2 gr it => ?_⟩
  rw [hK] at it
  intro D0 nD
  obtain ⟨Φ3, s3, R3⟩ := (R1.grow gr).weak hs1
  have gD : G D0 = none := same_none R3.gsub nD
  refine ⟨fun i m Hw => m = items.length - i ∧ i ≤ items.length ∧ ∃ (Φw : Hp) (εw : MEnv) (acc : List V) (accd zs : List D), Same Φ3 Φw ∧ Rel K Φw (upd G D0 (.lst acc)) pn Os (L2.wipe σ tg.slots) (wipeE εw tg.slots) Hw ∧ DpAll K Φw acc accd ∧
      compM (compF cl tg cs e) (items.drop i) εw = .ok (zs, ε2) ∧ accd ++ zs = ys ∧ εw.length = ε1.length, ⟨items.length, rfl, Nat.zero_le _, Φ3, ε1, [], [], ys, Same.refl _, (R3.wipe hp).addG nD, .nil, h4, rfl, rfl⟩, ?_⟩
  rintro i m Hw ⟨rfl, hi, Φw, εw, acc, accd, zs, sw, Rw, da, hc, ez, lw⟩
  by_cases hlt : i < items.length
  · right
    have sI : Same Φ2 Hw := s3.trans (sw.trans Rw.sub)
    refine ⟨it.go i Hw sI hlt, fun H' => items.length - (i + 1) = items.length - (i + 1) ∧ i + 1 ≤ items.length ∧ ∃ (Φw : Hp) (εw : MEnv) (acc : List V) (accd zs : List D), Same Φ3 Φw ∧ Rel K Φw (upd G D0 (.lst acc)) pn Os (L2.wipe σ tg.slots) (wipeE εw tg.slots) H' ∧ DpAll K Φw acc accd ∧
      compM (compF cl tg cs e) (items.drop (i + 1)) εw = .ok (zs, ε2) ∧ accd ++ zs = ys ∧ εw.length = ε1.length, fun H' hN => ⟨items.length - (i + 1), by omega, hN⟩, fun x H' hy => ?_⟩
    obtain ⟨Φ4, g4, dx, ex, px⟩ := it.yld i Hw Φw x H' (s3.trans sw) Rw.sub hy hlt
    have hdr : items.drop i = dx :: items.drop (i + 1) := by
      have := List.getElem?_eq_some_iff.mp ex
      obtain ⟨hi', e'⟩ := this
      rw [List.drop_eq_getElem_cons hi', e']
    rw [hdr] at hc
    obtain ⟨o, εn, zs', hf, hc', rfl⟩ := compM_cons hc
    have R4 := Rw.grow g4
    unfold compF at hf
    obtain ⟨ε3, f1, e1⟩ := Res.bind_eq_ok.mp hf
    obtain ⟨⟨bt, ε4⟩, f2, e2⟩ := Res.bind_eq_ok.mp e1
    refine hg Os Φ4 _ _ _ ε3 H' x dx _ R4 px f1 fun σ2 R5 l5 o5 => ?_
    have R5' : Rel K Φ4 (upd G D0 (.lst acc)) pn Os σ2 ε3 H' := R5.congr fun j => by
      rw [mem_remL]
      exact ⟨fun z => z.1, fun z => ⟨z, hd j z⟩⟩
    have ws : L2.wipe σ2 tg.slots = L2.wipe σ tg.slots := by
      rw [wipe_congr l5 o5, wipe_wipe]
    refine ⟨ws, ?_⟩
    refine ht Φ4 _ σ2 ε3 ε4 H' bt _ R5' f2 fun Φ5 H5 R6 s6 => ?_
    cases bt with
    | true =>
      obtain ⟨⟨y, ε5⟩, f3, e3⟩ := Res.bind_eq_ok.mp e2
      cases e3
      rw [if_pos rfl]
      refine he.shut Φ5 _ σ2 ε4 _ H5 y _ R6 f3 fun Φ6 H6 vy R7 s7 oy => ?_
      have hy : Dp K Φ6 vy y := oy.dp
      have hD : H6 D0 = some (.lst acc) := R7.gsub D0 _ upd_same
      have up : Same Φw Φ6 := g4.up.trans (s6.trans s7)
      have la := dpA_len da
      have hlen : acc.length < sizeLine := by
        have : ys.length = accd.length + (1 + zs'.length) := by
          rw [← ez]
          simp
          omega
        omega
      obtain ⟨Φ7, s8, R8⟩ := R7.weak hs3
      refine ⟨acc, hD, hlen, rfl, hlt, Φ7, εn, acc ++ [vy], accd ++ [y], zs', sw.trans (up.trans s8), ?_, dpA_app (dpA_up (up.trans s8) da) (.cons (dp_up s8 hy) .nil), hc', ?_, ?_⟩
      · have := (R8.wipe hp).putG (o' := .lst (acc ++ [vy]))
        rw [ws] at this
        exact this
      · rw [← ez]
        simp
      · have := R8.len
        have l0 := R3.len
        rw [this, l5, wipe_length, l0]
    | false =>
      cases e2
      rw [if_neg Bool.false_ne_true]
      obtain ⟨Φ7, s8, R8⟩ := R6.weak hs2
      have up : Same Φw Φ7 := g4.up.trans (s6.trans s8)
      refine ⟨rfl, hlt, Φ7, εn, acc, accd, zs', sw.trans up, ?_, dpA_up up da, hc', ez, ?_⟩
      · have := R8.wipe hp
        rw [ws] at this
        exact this
      · have := R8.len
        have l0 := R3.len
        rw [this, l5, wipe_length, l0]
  · left
    have ei : i = items.length := by omega
    subst ei
    rw [List.drop_length] at hc
    cases hc
    refine ⟨it.stop _ Hw (s3.trans (sw.trans Rw.sub)) rfl, ?_⟩
    obtain ⟨Rg, hD, fD, lD⟩ := Rw.subG gD
    rw [List.append_nil] at ez
    subst ez
    -- the slots of the block as they were
    have inS : ∀ {j : Nat} {d0 : D}, (backE ε1 ε2 tg.slots)[j]? = some (some d0) → (j ∈ tg.slots ∧ ε1[j]? = some (some d0)) ∨ (j ∉ tg.slots ∧ (wipeE ε2 tg.slots)[j]? = some (some d0)) := by
      intro j d0 hj
      rw [backE_get] at hj
      by_cases z : j ∈ tg.slots
      · rw [if_pos z] at hj
        split at hj
        · left
          refine ⟨z, ?_⟩
          have hj := Option.some.inj hj
          cases ee : ε1[j]? with
          | none => rw [ee] at hj; cases hj
          | some u => rw [ee] at hj; have hj : u = some d0 := hj; rw [hj]
        · cases hj
      · rw [if_neg z] at hj
        right
        refine ⟨z, ?_⟩
        rw [wipeE_get, if_neg z]
        exact hj
    have sg : ∀ {j : Nat}, j ∉ tg.slots → (L2.wipe σ tg.slots)[j]? = σ[j]? := fun hj => by rw [wipe_get, if_neg hj]
    have Rf : Rel K Φw G pn Os σ (backE ε1 ε2 tg.slots) Hw := by
      refine ⟨Rg.sub, Rg.gsub, Rg.gfree, by rw [backE_len, lw]; exact R3.len, fun j d0 hj nd0 ej => ?_, fun j d0 hj ej => ?_, fun j k a hj hk n lj lk sj sk => ?_, R3.pin, fun j d0 hd0 ej => ?_⟩
      · rcases inS ej with ⟨_, e1⟩ | ⟨z, e1⟩
        · obtain ⟨v, a1, a2⟩ := R3.sh j d0 hj nd0 e1
          exact ⟨v, a1, dp_up sw a2⟩
        · obtain ⟨v, a1, a2⟩ := Rg.sh j d0 hj nd0 e1
          rw [sg z] at a1
          exact ⟨v, a1, a2⟩
      · rcases inS ej with ⟨z, _⟩ | ⟨z, e1⟩
        · exact absurd z (hd j hj)
        · obtain ⟨v, a1, a2⟩ := Rg.ow j d0 hj e1
          rw [sg z] at a1
          exact ⟨v, a1, a2⟩
      · obtain ⟨ds1, lj, mj⟩ := lj
        obtain ⟨ds2, lk, mk⟩ := lk
        rcases inS lj with ⟨z, _⟩ | ⟨zj, e1⟩
        · exact absurd z (hd j hj)
        rcases inS lk with ⟨z, _⟩ | ⟨zk, e2⟩
        · exact absurd z (hd k hk)
        exact Rg.inj j k a hj hk n ⟨ds1, e1, mj⟩ ⟨ds2, e2, mk⟩ (by rw [sg zj]; exact sj) (by rw [sg zk]; exact sk)
      · rcases inS ej with ⟨_, e1⟩ | ⟨z, e1⟩
        · exact R3.tag j d0 hd0 e1
        · exact Rg.tag j d0 hd0 e1
    refine q Φw Hw (.ref D0) Rf (s1.trans (gr.up.trans (s3.trans sw))) ⟨D0, acc, rfl, hD, fD, gD, fun j hj lj sj => ?_, da⟩
    obtain ⟨ds1, lj, mj⟩ := lj
    rcases inS lj with ⟨z, _⟩ | ⟨z, e1⟩
    · exact absurd z (hd j hj)
    · exact lD j hj ⟨ds1, e1, mj⟩ (by rw [sg z]; exact sj)
end
end Mir
/-! Mir, part F2: pop, [x] * k. -/
namespace Mir
open PySem PySem.Spec L2
section
variable {K : PySem.W.Frag} {pn : List (Nat × V)} {O O' O1 O2 : List Nat} {cl : Cl}
theorem popD_nil {xs : List D} {y : D} {xs' : List D} (h : popD xs [] = .ok (y, xs')) : xs[xs.length - 1]? = some y ∧ xs' = xs.dropLast := by
  obtain ⟨z, h1, e⟩ := Res.bind_eq_ok.mp h
  cases e
  refine ⟨?_, rfl⟩
  cases q : xs[xs.length - 1]? with
  | none => rw [q] at h1; cases h1
  | some z' => rw [q] at h1; cases h1; rfl
theorem popD_one {xs : List D} {d y : D} {xs' : List D} (h : popD xs [d] = .ok (y, xs')) : ∃ i j, d = .int i ∧ i.natAbs < 2 ^ 62 ∧ ixOf xs.length i = some j ∧ xs[j]? = some y ∧ xs' = xs.eraseIdx j := by
  cases d with
  | int i =>
    obtain ⟨hz, e⟩ := guard_bind h
    obtain ⟨j, h1, e1⟩ := Res.bind_eq_ok.mp e
    obtain ⟨z, h2, e2⟩ := Res.bind_eq_ok.mp e1
    cases e2
    refine ⟨i, j, rfl, of_decide_eq_true hz, ?_, ?_, rfl⟩
    · cases q : ixOf xs.length i with
      | none => rw [q] at h1; cases h1
      | some j' => rw [q] at h1; cases h1; rfl
    · cases q : xs[j]? with
      | none => rw [q] at h2; cases h2
      | some z' => rw [q] at h2; cases h2; rfl
  | _ => cases h
theorem ev_pop0 {i : Nat} {ε ε' : MEnv} {d : D} (h : ev cl false (.pop i []) ε = .ok (d, ε')) : ∃ xs xs', ε[i]? = some (some (.list xs)) ∧ popD xs [] = .ok (d, xs') ∧ ε' = ε.set i (some (.list xs')) := by
  obtain ⟨x, h1, e1⟩ := Res.bind_eq_ok.mp (show (look ε i >>= fun y0 => listOf y0 >>= fun _ => look ε i >>= fun x => listOf x >>= fun xs => popD xs [] >>= fun p => fin false p.1 (ε.set i (some (.list p.2)))) = .ok (d, ε') from h)
  obtain ⟨_, _, e1⟩ := Res.bind_eq_ok.mp e1
  obtain ⟨x, h1, e1⟩ := Res.bind_eq_ok.mp e1
  obtain ⟨xs, h2, e2⟩ := Res.bind_eq_ok.mp e1
  obtain ⟨⟨y, xs'⟩, h3, e3⟩ := Res.bind_eq_ok.mp e2
  cases e3
  have hx : x = .list xs := by
    cases x <;> cases h2
    rfl
  subst hx
  exact ⟨xs, xs', look_ok h1, h3, rfl⟩
theorem sim_pop0 {i : Nat} (hi : i ∈ O) : Sim K pn O O false (tBM0 K "list" rPop (tVar i)) (ev cl false (.pop i [])) := by
  intro Φ G σ ε ε' H d Q R e q
  obtain ⟨xs, xs', h1, h2, rfl⟩ := ev_pop0 e
  obtain ⟨v0, sv, a, rfl, fa, ga, vs, ha, hd⟩ := R.ow i _ hi h1
  obtain ⟨hy, rfl⟩ := popD_nil h2
  obtain ⟨w, hw, pw⟩ := dpA_get hd hy
  have hl := dpA_len hd
  refine ⟨.ref a, sv, .inl ⟨rfl, _, .inl (.inl ha)⟩, a, vs, w, rfl, rfl, ha, by rw [hl]; exact hw, q Φ _ w ?_ (Same.refl _) (.of pw)⟩
  exact R.put hi h1 sv (dpA_dropLast hd)
theorem ev_pop1 {i : Nat} {as : List IE} {ε ε' : MEnv} {d : D} (h : ev cl false (.pop i as) ε = .ok (d, ε')) : ∃ os ε1 ds xs xs', (∃ ys, ε[i]? = some (some (.list ys))) ∧ evA cl as ε = .ok (os, ε1) ∧ resolve ε1 os = .ok ds ∧ ε1[i]? = some (some (.list xs)) ∧ popD xs ds = .ok (d, xs') ∧ ε' = ε1.set i (some (.list xs')) := by
  obtain ⟨y0, h0, e0⟩ := Res.bind_eq_ok.mp (show (look ε i >>= fun y0 => listOf y0 >>= fun _ => evA cl as ε >>= fun q => resolve q.2 q.1 >>= fun ds => look q.2 i >>= fun x => listOf x >>= fun xs => popD xs ds >>= fun p => fin false p.1 (q.2.set i (some (.list p.2)))) = .ok (d, ε') from h)
  obtain ⟨ys, hy0, e0⟩ := Res.bind_eq_ok.mp e0
  obtain ⟨⟨os, ε1⟩, h1, e1⟩ := Res.bind_eq_ok.mp e0
  have hy0 : y0 = .list ys := by
    cases y0 <;> cases hy0
    rfl
  subst hy0
  obtain ⟨ds, h2, e2⟩ := Res.bind_eq_ok.mp e1
  obtain ⟨y, h3, e3⟩ := Res.bind_eq_ok.mp e2
  obtain ⟨xs, h4, e4⟩ := Res.bind_eq_ok.mp e3
  obtain ⟨⟨z, xs'⟩, h5, e5⟩ := Res.bind_eq_ok.mp e4
  cases e5
  have hy : y = .list xs := by
    cases y <;> cases h4
    rfl
  subst hy
  exact ⟨os, ε1, ds, xs, xs', ⟨ys, look_ok h0⟩, h1, h2, look_ok h3, h5, rfl⟩
theorem sim_pop1 {i : Nat} {a : IE} {ts : List TE} (hn : [a].all (fun a => !isO a) = true) (h : SimA K pn O O1 (tL ts) (evA cl [a])) (hi : i ∈ O) (hi1 : i ∈ O1) :
    Sim K pn O O1 false (tBM K "list" rPopAt (tVar i) (tL ts)) (ev cl false (.pop i [a])) := by
  intro Φ G σ ε ε' H d Q R e0 q
  obtain ⟨os, ε1, ds, xs, xs', ⟨ys, hys⟩, h1, hr, h2, h3, rfl⟩ := ev_pop1 e0
  obtain ⟨v0, sv, a0, rfl, _, _, vs0, ha0, _⟩ := R.ow i _ hi hys
  refine ⟨.ref a0, sv, .inl ⟨rfl, _, .inl (.inl ha0)⟩, ?_⟩
  refine h Φ G σ ε ε1 H os _ R h1 fun Φ1 H1 us R1 s1 ov => ?_
  have hd1 := ov.vals (evA_vals h1 hn) hr
  obtain ⟨o, ho⟩ := simA_one (t := tVar 0) h1
  subst ho
  have hl1 : ds.length = 1 := by
    rw [← dpA_len hd1, ov.len]
    rfl
  match ds, us, hl1, hd1 with
  | [x], [u], _, .cons dx .nil =>
    obtain ⟨v1, sv1, a, rfl, fa, ga, vs, ha, hd⟩ := R1.ow i _ hi1 h2
    rw [sv] at sv1
    cases sv1
    obtain ⟨n, j, rfl, hn, hj, hy, rfl⟩ := popD_one h3
    cases dx
    obtain ⟨w, hw, pw⟩ := dpA_get hd hy
    have hl := dpA_len hd
    refine ⟨a0, vs, n, j, w, rfl, rfl, ha, by omega, by omega, ?_, hw, q Φ1 _ w ?_ s1 (.of pw)⟩
    · rw [hl]
      exact (ixN_seq (by rw [← ixOf_eq]; exact hj)).1
    · exact R1.put hi1 h2 sv (dpA_erase j hd)
/-! ### [x] * k -/
theorem pRepL_ok {x n r : D} (h : pRepL x n = .ok r) : ∃ k : Int, n = .int k ∧ k.natAbs < 2 ^ 62 ∧ k.toNat ≤ sizeLine ∧ r = .list (List.replicate k.toNat x) := by
  cases n with
  | int k =>
    obtain ⟨hz, e⟩ := guard_bind h
    cases e
    rw [Bool.and_eq_true, decide_eq_true_iff] at hz
    exact ⟨k, rfl, hz.1, fit_le hz.2, rfl⟩
  | _ => cases h
theorem dpA_rep1 {Φ : Hp} {v : V} {d : D} (h : Dp K Φ v d) : ∀ n : Nat, DpAll K Φ (List.replicate n [v]).flatten (List.replicate n d)
  | 0 => .nil
  | n + 1 => by
    rw [List.replicate_succ, List.replicate_succ, List.flatten_cons]
    exact .cons h (dpA_rep1 h n)
theorem sim_rep {x k : IE} {tx tk : TE} {b1 b2 : Bool} (sx : Sim K pn O O1 b1 tx (ev cl false x)) (sk : Sim K pn O1 O2 b2 tk (ev cl false k)) :
    Sim K pn O O2 true (fun σ H Q => tLst (tL [tx]) σ H fun u H1 => tk σ H1 fun w H2 => rRep u w H2 Q) (ev cl false (.rep false x k)) := by
  intro Φ G σ ε ε' H d Q R e0 q
  obtain ⟨⟨dx, ε1⟩, h1, e1⟩ := Res.bind_eq_ok.mp e0
  obtain ⟨⟨dk, ε2⟩, h2, e2⟩ := Res.bind_eq_ok.mp e1
  obtain ⟨r, h3, e3⟩ := Res.bind_eq_ok.mp e2
  cases e3
  obtain ⟨n, hn, n1, n2, rfl⟩ := pRepL_ok (show pRepL dx dk = .ok d from h3)
  refine sx.shut Φ G σ ε ε1 H dx _ R h1 fun Φ1 H1 v R1 s1 o1 => ?_
  refine ⟨(show 1 ≤ sizeLine by decide), fun p np => ?_⟩
  have R2 := R1.addG (o := .lst [v]) np
  refine sk.shut Φ1 _ σ ε1 _ _ dk _ R2 h2 fun Φ2 H2 w R3 s2 o2 => ?_
  have gp : G p = none := R1.gsub.free np
  obtain ⟨R4, hp, fp, lp⟩ := R3.subG gp
  subst hn
  cases o2.dp
  refine ⟨p, n, [v], rfl, rfl, hp, by omega, by omega, by rw [List.length_singleton, Nat.one_mul]; exact n2, fun p2 np2 => ?_⟩
  refine q Φ2 _ (.ref p2) (R4.heap (same_new np2)) (s1.trans s2) ⟨p2, _, rfl, upd_same, same_none R4.sub np2, R4.gsub.free np2, R4.lone_new np2, dpA_rep1 (o1.up s2) _⟩
/-! ### methods of lists -/
theorem meth_int {op : Pr} {m : Str} {d y r : D} (hm : methOf op = some m) (e : prim op [d, y] = .ok r) : ∃ n, r = .int n := by
  cases op <;> cases hm
  · obtain ⟨xs, _, e2⟩ := Res.bind_eq_ok.mp (show (seqOf d >>= fun xs => Res.guard (inOk xs y) >>= fun _ => Res.ok (PyData.int ((xs.countP fun z => PyData.eqv z y : Nat) : Int))) = .ok r from e)
    obtain ⟨_, e3⟩ := guard_bind e2
    cases e3
    exact ⟨_, rfl⟩
  · obtain ⟨xs, _, e2⟩ := Res.bind_eq_ok.mp (show (seqOf d >>= fun xs => Res.guard (inOk xs y && fitN xs.length) >>= fun _ => Res.ofO (xs.findIdx? fun z => PyData.eqv z y) >>= fun j => Res.ok (PyData.int (j : Int))) = .ok r from e)
    obtain ⟨_, e3⟩ := guard_bind e2
    obtain ⟨j, _, e5⟩ := Res.bind_eq_ok.mp e3
    cases e5
    exact ⟨_, rfl⟩
theorem sim_mth {op : Pr} {m : Str} {x e : IE} {tx te : TE} {b1 b2 : Bool} (hm : methOf op = some m) (sx : Sim K pn O O1 b1 tx (ev cl false x)) (se : Sim K pn O1 O2 b2 te (ev cl false e)) :
    Sim K pn O O2 true (tBM K "list" (rMth K op) tx (tL [te])) (ev cl false (.mth op x e)) := by
  intro Φ G σ ε ε' H d Q R e0 q
  obtain ⟨⟨dx, ε1⟩, h1, e1⟩ := Res.bind_eq_ok.mp e0
  obtain ⟨xs, hl, e2⟩ := Res.bind_eq_ok.mp e1
  obtain ⟨⟨dy, ε2⟩, h2, e3⟩ := Res.bind_eq_ok.mp e2
  obtain ⟨r, h3, e4⟩ := Res.bind_eq_ok.mp e3
  cases e4
  have hd : dx = .list xs := by cases dx <;> cases hl <;> rfl
  subst hd
  have h3 : prim op [.list xs, dy] = .ok d := h3
  obtain ⟨n, rfl⟩ := meth_int hm h3
  refine sx.shut Φ G σ ε ε1 H _ _ R h1 fun Φ1 H1 v R1 s1 o1 => ?_
  have dv := o1.dp
  refine ⟨?_, ?_⟩
  · cases dv with
    | lst hs ha => exact .inl ⟨rfl, _, sqL_up R1.sub hs⟩
  · refine se.shut Φ1 G σ ε1 _ H1 dy _ R1 h2 fun Φ2 H2 w R2 s2 o2 => ?_
    refine ⟨w, rfl, xs, dy, n, dp_up R2.sub (dp_up s2 dv), dp_up R2.sub o2.dp, h3, ?_⟩
    exact q Φ2 H2 (.int n) R2 (s1.trans s2) (.scalar (.int _) fun _ z => nomatch z)
end
end Mir
/-! Mir, part DS: dicts read, simulated. -/
namespace Mir
open PySem PySem.Spec L2
mutual
theorem nkOf_is : ∀ (d : D) (k : NestedKey), nkOf d = some k → k.data = d ∧ noTx k = true ∧ k.depth = d.depth
  | .none, k, h => by
    rw [nkOf] at h
    cases h
    exact ⟨rfl, rfl, rfl⟩
  | .int i, k, h => by
    rw [nkOf] at h
    cases h
    exact ⟨rfl, rfl, rfl⟩
  | .tuple xs, k, h => by
    rw [nkOf] at h
    obtain ⟨ks, h1, rfl⟩ := Option.map_eq_some_iff.mp h
    obtain ⟨e1, e2, e3⟩ := nksOf_is xs ks h1
    exact ⟨by rw [NestedKey.data, e1], by rw [noTx]; exact e2, by rw [NestedKey.depth, PyData.depth, e3]⟩
  | .bool b, k, h => by rw [nkOf] at h <;> first | cases h | (intros; exact nofun)
  | .str b, k, h => by rw [nkOf] at h <;> first | cases h | (intros; exact nofun)
  | .list b, k, h => by rw [nkOf] at h <;> first | cases h | (intros; exact nofun)
  | .dict b, k, h => by rw [nkOf] at h <;> first | cases h | (intros; exact nofun)
theorem nksOf_is : ∀ (xs : List D) (ks : List NestedKey), nksOf xs = some ks → NestedKey.datas ks = xs ∧ noTxs ks = true ∧ NestedKey.depthAll ks = PyData.depthAll xs
  | [], ks, h => by
    rw [nksOf] at h
    cases h
    exact ⟨rfl, rfl, rfl⟩
  | x :: xs, ks, h => by
    rw [nksOf] at h
    split at h
    · rename_i k ks' h1 h2
      cases h
      obtain ⟨a1, a2, a3⟩ := nkOf_is x k h1
      obtain ⟨b1, b2, b3⟩ := nksOf_is xs ks' h2
      exact ⟨by rw [NestedKey.datas, a1, b1], by rw [noTxs, a2, b2]; rfl, by rw [NestedKey.depthAll, PyData.depthAll, a3, b3]⟩
    · cases h
end
mutual
theorem eqv_data : ∀ (a b : NestedKey), PyData.eqv a.data b.data = NestedKey.beq a b
  | .none, .none => by simp [NestedKey.data, NestedKey.beq, PyData.eqv]
  | .num i, .num j => by
    simp only [NestedKey.data, NestedKey.beq, PyData.eqv]
    rw [Bool.eq_iff_iff]
    simp
  | .text x, .text y => by
    simp only [NestedKey.data, NestedKey.beq, PyData.eqv]
    rw [Bool.eq_iff_iff]
    simp
  | .tup as, .tup bs => by
    simp only [NestedKey.data, NestedKey.beq, PyData.eqv]
    exact eqv_datas as bs
  | .none, .num _ => by simp [NestedKey.data, NestedKey.beq, PyData.eqv]
  | .none, .text _ => by simp [NestedKey.data, NestedKey.beq, PyData.eqv]
  | .none, .tup _ => by simp [NestedKey.data, NestedKey.beq, PyData.eqv]
  | .num _, .none => by simp [NestedKey.data, NestedKey.beq, PyData.eqv]
  | .num _, .text _ => by simp [NestedKey.data, NestedKey.beq, PyData.eqv]
  | .num _, .tup _ => by simp [NestedKey.data, NestedKey.beq, PyData.eqv]
  | .text _, .none => by simp [NestedKey.data, NestedKey.beq, PyData.eqv]
  | .text _, .num _ => by simp [NestedKey.data, NestedKey.beq, PyData.eqv]
  | .text _, .tup _ => by simp [NestedKey.data, NestedKey.beq, PyData.eqv]
  | .tup _, .none => by simp [NestedKey.data, NestedKey.beq, PyData.eqv]
  | .tup _, .num _ => by simp [NestedKey.data, NestedKey.beq, PyData.eqv]
  | .tup _, .text _ => by simp [NestedKey.data, NestedKey.beq, PyData.eqv]
theorem eqv_datas : ∀ (as bs : List NestedKey), PyData.eqvAll (NestedKey.datas as) (NestedKey.datas bs) = NestedKey.beqAll as bs
  | [], [] => by simp [NestedKey.datas, NestedKey.beqAll, PyData.eqvAll]
  | a :: as, b :: bs => by
    simp only [NestedKey.datas, NestedKey.beqAll, PyData.eqvAll]
    rw [eqv_data a b, eqv_datas as bs]
  | [], _ :: _ => by simp [NestedKey.datas, NestedKey.beqAll, PyData.eqvAll]
  | _ :: _, [] => by simp [NestedKey.datas, NestedKey.beqAll, PyData.eqvAll]
end
theorem eqv_nk (a b : NestedKey) : PyData.eqv a.data b.data = decide (a = b) := by rw [eqv_data, NestedKey.decide_eq]
theorem eqv_key (a b : Key) : PyData.eqv (keyD a) (keyD b) = decide (a = b) := by
  cases a with
  | inl i =>
    cases b with
    | inl j =>
      rw [key_ll]
      simp [keyD, PyData.eqv]
    | inr y =>
      rw [key_lr]
      simp [keyD, PyData.eqv]
  | inr x =>
    cases b with
    | inl j =>
      rw [key_rl]
      simp [keyD, PyData.eqv]
    | inr y =>
      rw [key_rr]
      simp only [keyD, PyData.eqv]
      rw [Bool.eq_iff_iff]
      simp
section
variable {K : PySem.W.Frag} {Φ H : Hp}
/-- both none, or both there and alike -/
def RelD (K : PySem.W.Frag) (Φ : Hp) : Option V → Option D → Prop
  | some v, some d => Dp K Φ v d
  | none, none => True
  | _, _ => False
theorem RelD.isSome {a : Option V} {b : Option D} (h : RelD K Φ a b) : a.isSome = b.isSome := by
  cases a <;> cases b <;> first | rfl | exact False.elim h
theorem RelD.get {a : Option V} {d : D} (h : RelD K Φ a (some d)) : ∃ v, a = some v ∧ Dp K Φ v d := by
  cases a with
  | none => exact False.elim h
  | some v => exact ⟨v, rfl, h⟩
theorem dks_find {xs : List (Key × V)} {kvs : List (D × D)} (h : DKs K Φ xs kvs) (k : Key) : RelD K Φ (valV xs k) (dFind kvs (keyD k)) := by
  induction h with
  | nil => exact True.intro
  | @cons k' v d xs kvs h t ih =>
    unfold dFind
    rw [List.find?_cons]
    dsimp only
    rw [eqv_key]
    by_cases e : k' = k
    · rw [valV_pos (p := (k', v)) e, decide_eq_true e]
      exact h
    · rw [valV_neg (p := (k', v)) e, decide_eq_false e]
      exact ih
theorem dts_find {xs : TE3} {kvs : List (D × D)} (h : DTs K Φ xs kvs) (k : NestedKey) : RelD K Φ (findT xs k) (dFind kvs k.data) := by
  induction h with
  | nil => exact True.intro
  | @cons k' q v d xs kvs h1 h t ih =>
    unfold dFind findT
    rw [List.find?_cons, List.find?_cons]
    dsimp only
    rw [eqv_nk]
    by_cases e : k' = k
    · rw [decide_eq_true e]
      exact h
    · rw [decide_eq_false e]
      exact ih
theorem dts_keys {xs : TE3} {kvs : List (D × D)} (s : Same Φ H) (h : DTs K Φ xs kvs) : KeysIn K H xs := by
  induction h with
  | nil => exact fun x hx => nomatch hx
  | cons h1 h2 t ih =>
    intro x hx
    rcases List.mem_cons.mp hx with rfl | hx
    · exact dp_up s h1
    · exact ih x hx
theorem dks_len {xs : List (Key × V)} {kvs : List (D × D)} (h : DKs K Φ xs kvs) : xs.length = kvs.length := by
  induction h with
  | nil => rfl
  | cons _ _ ih => exact congrArg (· + 1) ih
theorem dts_len {xs : TE3} {kvs : List (D × D)} (h : DTs K Φ xs kvs) : xs.length = kvs.length := by
  induction h with
  | nil => rfl
  | cons _ _ _ ih => exact congrArg (· + 1) ih
theorem dictOf_ok {y : D} {t : Bool} {kvs : List (D × D)} (h : dictOf y = .ok (t, kvs)) : ∃ x, y = .dict ((.bool t, x) :: kvs) := by
  unfold dictOf at h
  split at h
  · cases h
    exact ⟨_, rfl⟩
  · cases h
theorem keyOk_k {d : D} (h : keyOk false d = true) : ∃ k, d = keyD k := by
  cases d <;> first | exact ⟨.inl _, rfl⟩ | exact ⟨.inr _, rfl⟩ | cases h
theorem keyOk_t {d : D} (h : keyOk true d = true) : ∃ xs k, d = .tuple xs ∧ k.data = d ∧ KeyOkN k := by
  cases d with
  | tuple xs =>
    have h : ((nkOf (.tuple xs)).isSome && decide (PyData.depth (.tuple xs) ≤ 7)) = true := h
    rw [Bool.and_eq_true, decide_eq_true_iff] at h
    obtain ⟨k, hk⟩ := Option.isSome_iff_exists.mp h.1
    obtain ⟨a1, a2, a3⟩ := nkOf_is _ k hk
    exact ⟨xs, k, rfl, a1, a2, by rw [a3]; omega⟩
  | _ => cases h
theorem dp_key {v : V} {k : Key} (h : Dp K Φ v (keyD k)) : v = kV k := by
  cases k with
  | inl i => cases h; rfl
  | inr x => cases h; rfl
/-- what a dict of one's own holds at a key -/
theorem held_get {a : Addr} {t : Bool} {x : D} {kvs : List (D × D)} {d : D} {y : V} (s : Same Φ H) (h : Held K Φ H a (.dict ((.bool t, x) :: kvs))) (ok : keyOk t d = true) (hy : Dp K Φ y d) : ∃ r, GGet K H a y r ∧ RelD K Φ r (dFind kvs d) := by
  obtain ⟨o, ho, hd⟩ := h
  cases t with
  | false =>
    obtain ⟨xs, rfl, hk⟩ := hd
    obtain ⟨k, rfl⟩ := keyOk_k ok
    cases dp_key hy
    exact ⟨_, .inl (DGet.k ho), dks_find hk k⟩
  | true =>
    obtain ⟨xs, rfl, hk⟩ := hd
    obtain ⟨ds, k, e0, rfl, kk⟩ := keyOk_t ok
    have hy0 := hy
    rw [e0] at hy
    cases hy with
    | tup hs ha =>
      exact ⟨_, .inr ⟨xs, k, _, ho, dts_keys s hk, rfl, kk, dp_up s hy0, rfl⟩, dts_find hk k⟩
end
section
variable {K : PySem.W.Frag} {pn : List (Nat × V)} {O O' O1 O2 : List Nat} {cl : Cl}
theorem sim_dget {i : Nat} {k : IE} {tk : TE} {b : Bool} (hi : i ∈ O) (hi1 : i ∈ O1) (sk : Sim K pn O O1 b tk (ev cl false k)) : Sim K pn O O1 false (tGGet K (tVar i) tk) (ev cl false (.dget i k)) := by
  intro Φ G σ ε ε' H r Q R e q
  obtain ⟨y0, h0, e0⟩ := Res.bind_eq_ok.mp e
  obtain ⟨⟨d, ε1⟩, h1, e1⟩ := Res.bind_eq_ok.mp e0
  obtain ⟨y, h2, e2⟩ := Res.bind_eq_ok.mp e1
  obtain ⟨⟨t, kvs⟩, h3, e3⟩ := Res.bind_eq_ok.mp e2
  obtain ⟨ok, e4⟩ := guard_bind e3
  obtain ⟨v, h5, e5⟩ := Res.bind_eq_ok.mp e4
  obtain ⟨rfl, rfl⟩ := fin_ok e5
  obtain ⟨v0, sv, _⟩ := R.ow i _ hi (look_ok h0)
  refine ⟨v0, sv, ?_⟩
  refine sk.shut Φ G σ ε ε' H d _ R h1 fun Φ1 H1 vk R1 s1 o1 => ?_
  obtain ⟨x, rfl⟩ := dictOf_ok h3
  obtain ⟨v1, sv1, ow⟩ := R1.ow i _ hi1 (look_ok h2)
  obtain ⟨a, rfl, fa, ga, hh⟩ := ow.own rfl
  rw [sv] at sv1
  cases sv1
  obtain ⟨w, g, rd⟩ := held_get R1.sub hh ok o1.dp
  have hf : dFind kvs d = some r := by
    cases hq : dFind kvs d with
    | none => rw [hq] at h5; cases h5
    | some z => rw [hq] at h5; cases h5; rfl
  rw [hf] at rd
  obtain ⟨vv, rfl, hv⟩ := rd.get
  exact ⟨a, vv, rfl, g, q Φ1 H1 vv R1 s1 (.of hv)⟩
theorem sim_din {neg : Bool} {i : Nat} {k : IE} {tk : TE} {b : Bool} (hi1 : i ∈ O1) (sk : Sim K pn O O1 b tk (ev cl false k)) : Sim K pn O O1 false (tGIn K neg tk (tVar i)) (ev cl false (.din neg k i)) := by
  intro Φ G σ ε ε' H r Q R e q
  obtain ⟨⟨d, ε1⟩, h1, e1⟩ := Res.bind_eq_ok.mp e
  obtain ⟨y, h2, e2⟩ := Res.bind_eq_ok.mp e1
  obtain ⟨⟨t, kvs⟩, h3, e3⟩ := Res.bind_eq_ok.mp e2
  obtain ⟨ok, e4⟩ := guard_bind e3
  cases e4
  refine sk.shut Φ G σ ε ε' H d _ R h1 fun Φ1 H1 vk R1 s1 o1 => ?_
  obtain ⟨x, rfl⟩ := dictOf_ok h3
  obtain ⟨v1, sv1, ow⟩ := R1.ow i _ hi1 (look_ok h2)
  obtain ⟨a, rfl, fa, ga, hh⟩ := ow.own rfl
  obtain ⟨w, g, rd⟩ := held_get R1.sub hh ok o1.dp
  refine ⟨.ref a, sv1, a, w, rfl, g, ?_⟩
  rw [rd.isSome]
  exact q Φ1 H1 _ R1 s1 (.bl _)
theorem din_same {neg : Bool} {i : Nat} {k : IE} (ε : MEnv) : ev cl true (.din neg k i) ε = ev cl false (.din neg k i) ε := rfl
theorem din_bool {neg : Bool} {i : Nat} {k : IE} {ε ε' : MEnv} {r : D} (h : ev cl false (.din neg k i) ε = .ok (r, ε')) : ∃ b, r = .bool b := by
  obtain ⟨⟨d, ε1⟩, h1, e1⟩ := Res.bind_eq_ok.mp h
  obtain ⟨y, h2, e2⟩ := Res.bind_eq_ok.mp e1
  obtain ⟨⟨t, kvs⟩, h3, e3⟩ := Res.bind_eq_ok.mp e2
  obtain ⟨ok, e4⟩ := guard_bind e3
  cases e4
  exact ⟨_, rfl⟩
end
end Mir
/-! Mir, part K: the check of expressions, and that it is sound. -/
namespace Mir
open PySem PySem.Spec L2

def constIs : Const → D → Bool
  | .none, .none => true
  | .bool a, .bool b => a == b
  | .int a, .int b => decide (a = b)
  | .str a, .str b => decide (a = b)
  | _, _ => false
/-- scalars alike -/
def scEq : D → D → Bool
  | .none, .none => true
  | .bool a, .bool b => a == b
  | .int a, .int b => decide (a = b)
  | .str a, .str b => decide (a = b)
  | _, _ => false
theorem scEq_ok {a b : D} (h : scEq a b = true) : a = b := by
  cases a <;> cases b <;> first | rfl | cases h | skip
  · have := eq_of_beq (show (_ == _) = true from h)
    rw [this]
  · have := of_decide_eq_true (show decide _ = true from h)
    rw [this]
  · have := of_decide_eq_true (show decide _ = true from h)
    rw [this]
/-- a name of the def that holds no dicts; one that holds dicts alone -/
def varIs (c : Cfg) (i : Nat) (x : Str) : Bool := slotIs c i x && decide (i ∉ c.dsl)
def dicIs (c : Cfg) (i : Nat) (x : Str) : Bool := slotIs c i x && decide (i ∈ c.dsl)
def inOp : Bool → CmpOp
  | true => .NotIn
  | false => .In
def notSet : Expr → Bool
  | .Set _ _ _ => false
  | _ => true
/-- an expression whose truth is asked by its value -/
def plainTest : Expr → Bool
  | .UnaryOp .Not _ _ => false
  | .BoolOp _ _ _ => false
  | .IfExp _ _ _ _ => false
  | .Compare _ _ _ _ => false
  | _ => true
theorem folded_no {e : Expr} (h : notSet e = true) (env : Env) (x : Value) : foldedSetIterable e env x = pure x := by
  cases e <;> first | rfl | cases h
theorem plain_is {e : Expr} (h : plainTest e = true) (env : Env) (whole : Sem Value) : isTrue e env whole = (do let v ← whole; standAt e.pos; holding [v] (truthy v)) := by
  cases e <;> first | rfl | cases h | skip
  rename_i op a pos
  cases op <;> first | rfl | cases h
def subS (a b : List Nat) : Bool := a.all fun i => decide (i ∈ b)
theorem subS_ok {a b : List Nat} (h : subS a b = true) : ∀ i ∈ a, i ∈ b := fun i hi => of_decide_eq_true (List.all_eq_true.mp h i hi)
def interS (a b : List Nat) : List Nat := a.filter fun i => decide (i ∈ b)
theorem interS_ok {a b : List Nat} {i : Nat} : i ∈ interS a b ↔ i ∈ a ∧ i ∈ b := by
  unfold interS
  rw [List.mem_filter, decide_eq_true_iff]
def nmIs (c : Cfg) (i : Nat) : Expr → Bool
  | .Name x _ => locIs c i x
  | _ => false
def nmsAre (c : Cfg) : List Nat → List Expr → Bool
  | [], [] => true
  | i :: is, e :: es => nmIs c i e && nmsAre c is es
  | _, _ => false
def tgIs (c : Cfg) (tg : Tg) (e : Expr) : Bool := (tg.slots.all fun i => decide (i ∉ c.muts) && decide (i ∉ c.dsl)) && (match tg, e with
  | .nm i, e => nmIs c i e
  | .tp is, .Tuple es _ _ => nmsAre c is es
  | _, _ => false)
def tgOwn (c : Cfg) (tg : Tg) : List (Str × Nat) := tg.slots.map fun i => (c.N.getD i "", i)
def isComp : Expr → Option (Expr × Expr × Expr × List Expr × Scope)
  | .ListComp elt [⟨tg, iter, ifs, 0⟩] scope _ => some (elt, tg, iter, ifs, scope)
  | _ => none
def rgName : Bool → Str
  | true => "tuple"
  | false => "list"
def blkCfg (c : Cfg) (scope : Scope) : Cfg := { c with sc := relS scope c.sc, top := false }
def starsNo (c : Cfg) (fs : FSig) (f : Nat) (x : Str) (as : List IE) (es : List Expr) (outs O' : List Nat) : Bool :=
  decide (fs.name = x) && gl c x && !es.isEmpty && decide (as.length = fs.ps.length) && decide (outsOf as fs.muts = some outs) && restVals as fs.muts && decide outs.Nodup && decide fs.muts.Nodup && subS outs O' && kindsOk as fs.muts fs.dsl
/-- in a test: an expression whose truth is asked by its value, or a comparison -/
def okT (tm : Bool) (e : Expr) (cmp : Bool) : Bool := !tm || plainTest e || cmp

mutual
def chk (c : Cfg) : Bool → IE → Expr → List Nat → Option (List Nat × Bool)
  | tm, .c d, e, O => match e with
    | .Constant k _ _ => if constIs k d && okT tm e false then some (O, true) else none
    | .Name x _ => if gl c x && (c.cns.any fun p => decide (p.1 = x) && scEq p.2 d) && okT tm e false then some (O, true) else none
    | _ => none
  | tm, .v i, e, O => match e with
    | .Name x _ => if varIs c i x && okT tm e false then some (rem i O, false) else none
    | _ => none
  | tm, .o i, e, O => match e with
    | .Name x _ => if varIs c i x && tm then some (O, false) else none
    | _ => none
  | tm, .mv i, e, O => match e with
    | .Name x _ => if varIs c i x && !tm && decide (i ∈ O) && decide (i ∉ c.muts) then some (rem i O, true) else none
    | _ => none
  | tm, .p op as, e, O => match opArgs c op e with
    | some es => match chkA c as es O with
      | some O' => if okT tm e (isCmp e) && as.all (fun a => !isOD a) then some (O', freshOp op) else none
      | none => none
    | none => none
  | tm, .call f as outs, e, O => match e with
    | .Call (.Name x _) es [] _ => match c.fns[f]?, chkA c as es O with
      | some fs, some O' => if starsNo c fs f x as es outs O' && okT tm e false then some (O', fs.fresh) else none
      | _, _ => none
    | _ => none
  | tm, .callD f as t, e, O => match e with
    | .Call (.Name x _) es [] _ => match es.reverse with
      | .Dict [] [] _ :: rs => match c.fns[f]?, chkA c as rs.reverse O with
        | some fs, some O' => if decide (fs.name = x) && gl c x && decide (as.length + 1 = fs.ps.length) && decide (fs.muts = [as.length]) && decide (as.length ∈ fs.dsl) && as.all (fun a => !isO a) && okT tm e false then some (O', fs.fresh) else none
        | _, _ => none
      | _ => none
    | _ => none
  | tm, .rg t as, e, O => match e with
    | .Call (.Name f _) [.Call (.Name g _) es [] _] [] _ => match chkA c as es O with
      | some O' => if decide (f = rgName t) && bl c f && decide (g = "range") && bl c g && as.all (fun a => !isO a) && (decide (as.length = 1) || decide (as.length = 2)) && okT tm e false then some (O', true) else none
      | none => none
    | _ => none
  | tm, .disp t as, e, O => match t, e with
    | true, .Tuple es _ _ => match chkA c as es O with
      | some O' => if as.all (fun a => !isO a) && okT tm e false then some (O', true) else none
      | none => none
    | false, .List es _ => match chkA c as es O with
      | some O' => if as.all (fun a => !isO a) && okT tm e false then some (O', true) else none
      | none => none
    | _, _ => none
  | tm, .cut x lo hi, e, O => match e with
    | .Subscript a (.Slice l h none _) _ => match chkA c x [a] O with
      | some O1 => match chkP c lo l O1 with
        | some O2 => match chkP c hi h O2 with
          | some O3 => if okT tm e false && x.all (fun a => !isOD a) then some (O3, true) else none
          | none => none
        | none => none
      | none => none
    | _ => none
  | tm, .od i, e, O => match e with
    | .Name x _ => if dicIs c i x && tm && decide (i ∈ O) then some (O, false) else none
    | _ => none
  | tm, .dget i k, e, O => match e with
    | .Subscript (.Name x _) ix _ => if dicIs c i x && decide (i ∈ O) && plainIx ix && okT tm e false then
        (match chk c false k ix O with
        | some (O1, _) => if decide (i ∈ O1) then some (O1, false) else none
        | none => none)
      else none
    | _ => none
  | tm, .din neg k i, e, O => match e with
    | .Compare kx [op] [.Name x px] _ => if dicIs c i x && decide (op = inOp neg) then
        (match chk c false k kx O with
        | some (O1, _) => if decide (i ∈ O1) then some (O1, false) else none
        | none => none)
      else none
    | _ => none
  | tm, .and a b, e, O => match e with
    | .BoolOp .And (x :: y :: r) pos => match chk c tm a x O with
      | some (O1, _) => match chk c tm b (if r.isEmpty = true then y else .BoolOp .And (y :: r) pos) O1 with
        | some (O2, _) => if subS O2 O1 then some (O2, false) else none
        | none => none
      | none => none
    | _ => none
  | tm, .or a b, e, O => match e with
    | .BoolOp .Or (x :: y :: r) pos => match chk c tm a x O with
      | some (O1, _) => match chk c tm b (if r.isEmpty = true then y else .BoolOp .Or (y :: r) pos) O1 with
        | some (O2, _) => if subS O2 O1 then some (O2, false) else none
        | none => none
      | none => none
    | _ => none
  | tm, .not a, e, O => match e with
    | .UnaryOp .Not x _ => match chk c tm a x O with
      | some (O1, _) => some (O1, false)
      | none => none
    | _ => none
  | tm, .ifx t a b, e, O => match e with
    | .IfExp tt x y _ => if tm = true then none else match chk c true t tt O with
      | some (O1, _) => match chk c false a x O1, chk c false b y O1 with
        | some (O2, _), some (O3, _) => some (interS O2 O3, false)
        | _, _ => none
      | none => none
    | _ => none
  | tm, .chain o1 o2 a b d, e, O => match e with
    | .Compare x [p1, p2] [y, z] _ => if decide (cmpOf o1 = some p1) && decide (cmpOf o2 = some p2) && !lastMarks [p1, p2] [y, z] then match chk c false a x O with
      | some (O1, _) => match chk c false b y O1 with
        | some (O2, _) => match chk c false d z O2 with
          | some (O3, _) => if subS O3 O2 then some (O3, false) else none
          | none => none
        | none => none
      | none => none else none
    | _ => none
  | tm, .chain3 o1 o2 o3 a b d f, e, O => match e with
    | .Compare x [p1, p2, p3] [y, z, u] _ => if decide (cmpOf o1 = some p1) && decide (cmpOf o2 = some p2) && decide (cmpOf o3 = some p3) && !lastMarks [p1, p2, p3] [y, z, u] then match chk c false a x O with
      | some (O1, _) => match chk c false b y O1 with
        | some (O2, _) => match chk c false d z O2 with
          | some (O3, _) => match chk c false f u O3 with
            | some (O4, _) => if subS O4 O2 && subS O4 O3 then some (O4, false) else none
            | none => none
          | none => none
        | none => none
      | none => none else none
    | _ => none
  | tm, .comp k as tg cs e', e, O => match isComp e with
    | some (elt, target, iter, ifs, scope) => match iterArgs c k iter with
      | some es => match chkA c as es O with
        | some O1 => if as.all (fun a => !isO a) && itTg k target && notSet iter && blkC c.N c.sc scope (tgOwn c tg) && tgIs (blkCfg c scope) tg target && okT tm e false then
          match chkTs (blkCfg c scope) cs ifs (remL tg.slots O1) with
          | some O2 => match chk (blkCfg c scope) false e' elt O2 with
            | some (O3, _) =>
              match chkTs (blkCfg c scope) cs ifs (interS (remL tg.slots O1) O3) with
              | some O4 => match chk (blkCfg c scope) false e' elt O4 with
                | some (O5, _) => if subS (interS (remL tg.slots O1) O3) O4 && subS (interS (remL tg.slots O1) O3) O5 then some (interS (remL tg.slots O1) O3, true) else none
                | none => none
              | none => none
            | none => none
          | none => none
          else none
        | none => none
      | none => none
    | none => none
  | tm, .pop i as, e, O => match e with
    | .Call (.Attribute (.Name x _) m apos) es [] cpos => if slotIs c i x && decide (m = "pop") && (apos.endLine == cpos.line) && decide (i ∈ O) && okT tm e false && as.all (fun a => !isO a) && decide (as.length ≤ 1) then
        (match chkA c as es O with
        | some O1 => if decide (i ∈ O1) then some (O1, false) else none
        | none => none)
      else none
    | _ => none
  | tm, .rep t x k, e, O => match t, e with
    | false, .BinOp (.List [ex] _) .Mult ek _ => if isStar ex = true then none else match chk c false x ex O with
      | some (O1, _) => match chk c false k ek O1 with
        | some (O2, _) => if okT tm e false then some (O2, true) else none
        | none => none
      | none => none
    | _, _ => none
  | tm, .mth op x y, e, O => match e with
    | .Call (.Attribute a m apos) [b] [] cpos => if decide (methOf op = some m) && noSuper a && (apos.endLine == cpos.line) && !isStar b && okT tm e false then
        (match chk c false x a O with
        | some (O1, _) => match chk c false y b O1 with
          | some (O2, _) => some (O2, true)
          | none => none
        | none => none)
      else none
    | _ => none
  termination_by structural _ ie => ie
def chkA (c : Cfg) : List IE → List Expr → List Nat → Option (List Nat)
  | [], es, O => match es with
    | [] => some O
    | _ => none
  | a :: as, es, O => match es with
    | [] => none
    | e :: es => if isO a = true then (match chk c true a e O with | some _ => if isStar e = true then none else chkA c as es O | none => none)
      else if isStar e = true then none else match chk c false a e O with
        | some (O1, _) => chkA c as es O1
        | none => none
  termination_by structural as => as
def chkP (c : Cfg) : List IE → Option Expr → List Nat → Option (List Nat)
  | [], e, O => match e with
    | none => some O
    | _ => none
  | a :: as, e, O => match e with
    | some x => if as.isEmpty = true then (match chk c false a x O with | some (O1, _) => some O1 | none => none) else none
    | none => none
  termination_by structural as => as
def chkTs (c : Cfg) : List IE → List Expr → List Nat → Option (List Nat)
  | [], es, O => match es with
    | [] => some O
    | _ => none
  | a :: as, es, O => match es with
    | [e] => if as.isEmpty = true then (match chk c true a e O with | some (O1, _) => some O1 | none => none) else none
    | _ => none
  termination_by structural as => as
end
end Mir
/-! Mir, part L: the check of expressions is sound. -/
namespace Mir
open PySem PySem.Spec L2

/-- the slots that are not written by names: those handed in to be changed, those that hold dicts alone -/
structure PnOk (c : Cfg) (pn : List (Nat × V)) : Prop where
  prot : ∀ p ∈ pn, p.1 ∈ c.muts ∨ p.1 ∈ c.dsl
  tag : ∀ i, (i, dTag) ∈ pn → i ∈ c.dsl
  has : ∀ i ∈ c.dsl, (i, dTag) ∈ pn
  val : ∀ p ∈ pn, p.2 ≠ dTag → p.1 ∈ c.muts
theorem PnOk.no {c : Cfg} {pn : List (Nat × V)} (h : PnOk c pn) {i : Nat} (n : i ∉ c.dsl) : (i, dTag) ∉ pn := fun z => n (h.tag i z)
theorem PnOk.blk {c : Cfg} {pn : List (Nat × V)} (h : PnOk c pn) (scope : Scope) : PnOk (blkCfg c scope) pn := ⟨h.prot, h.tag, h.has, h.val⟩
structure CallsOk (c : Cfg) (X : Cx) (cl : Cl) : Prop where
  fn : ∀ (i : Nat) (fs : FSig), c.fns[i]? = some fs → ∃ (f : Addr) (fd : FuncData) (k : Nat), X.mg fs.name = some (.ref f) ∧ PySem.W.keepIn X.K (.ref f) = true ∧ Binds X.K fd fs.ps [] ∧ Room k X.A ∧
    FnG X.prog X.w X.K X.mg X.base k f fd fs.ps (spOf X.K cl i fs)
theorem Ctx.blk {c : Cfg} {X : Cx} (C : Ctx c X) (scope : Scope) (s : Shared) (H : Hp) (A : Addr) (cs : List (Str × Addr)) (fp : List Addr) : Ctx (blkCfg c scope) (X.blk s H scope (compEnvC scope cs A X.env) fp) :=
  ⟨C.N, C.nd, by show relS scope X.env.scope = relS scope c.sc; rw [C.sc], C.calm, C.gd, C.un, C.blt, (fun z => by cases z), C.cn⟩
theorem CallsOk.blk {c : Cfg} {X : Cx} {cl : Cl} (C : CallsOk c X cl) (scope : Scope) (s : Shared) (H : Hp) (A : Addr) (cs : List (Str × Addr)) (fp : List Addr) : CallsOk (blkCfg c scope) (X.blk s H scope (compEnvC scope cs A X.env) fp) cl := ⟨C.fn⟩

section
variable {K : PySem.W.Frag} {pn : List (Nat × V)} {O O' O1 O2 O3 Os : List Nat} {cl : Cl}
theorem simT_bool {e : IE} {t : TE} {b : Bool} (hb : ∀ ε r ε', ev cl false e ε = .ok (r, ε') → ∃ k, r = .bool k) (ha : isAtom e = true) (s : Sim K pn O O' b t (ev cl false e)) : SimT K pn O O' (tTest t) (ev cl true e) := by
  intro Φ G σ ε ε' H d Q R e1 q
  rw [ev_atom ha] at e1
  obtain ⟨⟨r, ε1⟩, h1, e2⟩ := Res.bind_eq_ok.mp e1
  obtain ⟨k, hk, rfl, rfl⟩ := finT_ok e2
  obtain ⟨k', rfl⟩ := hb _ _ _ h1
  cases hk
  refine s.shut Φ G σ ε ε' H _ _ R h1 fun Φ' H' v R' s' o => ?_
  cases o.dp
  exact ⟨_, rfl, q Φ' H' _ rfl R' s'⟩
end

/-- both ways of an atom -/
theorem atom_ok {X : Cx} {pn : List (Nat × V)} {O O' : List Nat} {cl : Cl} {tm cmp b : Bool} {e : Expr} {ie : IE} {t : TE} (ha : isAtom ie = true) (hp : PE X e t) (s : Sim X.K pn O O' b t (ev cl false ie)) (ok : okT tm e cmp = true)
    (hc : tm = true → cmp = true → PT X e (tTest t) ∧ ∀ ε r ε', ev cl false ie ε = .ok (r, ε') → ∃ k, r = .bool k) :
    (tm = false → PE X e (tCan X.K pn O O' b (ev cl false ie))) ∧ (tm = true → PT X e (tCanT X.K pn O O' (ev cl true ie))) := by
  refine ⟨fun _ => pe_can hp s, fun ht => ?_⟩
  subst ht
  unfold okT at ok
  cases hpt : plainTest e with
  | true => exact pt_can (pt_truth hp fun w => plain_is hpt _ _) (simT_tru ha s)
  | false =>
    rw [hpt] at ok
    have hcm : cmp = true := by simpa using ok
    obtain ⟨pt, hb⟩ := hc rfl hcm
    exact pt_can pt (simT_bool hb ha s)

theorem cmp_bool {c : Cfg} {op : Pr} {e : Expr} {es : List Expr} (h : opArgs c op e = some es) (hc : isCmp e = true) : ∀ ds r, prim op ds = .ok r → ∃ k, r = .bool k := by
  have key : (cmpOf op ≠ none ∨ op = .isN ∨ op = .notN ∨ (∃ b, op = .isB b) ∨ (∃ b, op = .notB b)) → ∀ ds r, prim op ds = .ok r → ∃ k, r = .bool k := by
    intro ho ds r e
    have two : ∀ {f : D → D → Res Bool}, (∀ a b, prim op [a, b] = (f a b >>= fun k => pure (.bool k))) → (∀ a, prim op [a] = .bad) → prim op [] = .bad → (∀ a b d l, prim op (a :: b :: d :: l) = .bad) → ∃ k, r = .bool k := by
      intro f h2 h1 h0 h3
      match ds with
      | [] => rw [h0] at e; cases e
      | [a] => rw [h1] at e; cases e
      | [a, b] =>
        rw [h2] at e
        obtain ⟨k, _, e⟩ := Res.bind_eq_ok.mp e
        cases e
        exact ⟨k, rfl⟩
      | a :: b :: d :: l => rw [h3] at e; cases e
    have one : ∀ {f : D → Bool}, (∀ a, prim op [a] = .ok (.bool (f a))) → prim op [] = .bad → (∀ a b l, prim op (a :: b :: l) = .bad) → ∃ k, r = .bool k := by
      intro f h1 h0 h2
      match ds with
      | [] => rw [h0] at e; cases e
      | [a] =>
        rw [h1] at e
        cases e
        exact ⟨_, rfl⟩
      | a :: b :: l => rw [h2] at e; cases e
    have tru : ∀ {f : Bool → Bool}, (∀ a, prim op [a] = match a with | .bool x => .ok (.bool (f x)) | _ => .bad) → prim op [] = .bad → (∀ a b l, prim op (a :: b :: l) = .bad) → ∃ k, r = .bool k := by
      intro f h1 h0 h2
      match ds with
      | [] => rw [h0] at e; cases e
      | [a] =>
        rw [h1] at e
        cases a with
        | bool x => cases e; exact ⟨_, rfl⟩
        | _ => cases e
      | a :: b :: l => rw [h2] at e; cases e
    rcases ho with ho | ho | ho | ho | ho
    · cases op <;> first | exact absurd rfl ho | skip
      · exact two (f := eqD) (fun _ _ => rfl) (fun _ => rfl) rfl fun _ _ _ _ => rfl
      · exact two (f := fun a b => eqD a b >>= fun r => pure (!r)) (fun a b => by show (eqD a b >>= _) = _; cases eqD a b <;> rfl) (fun _ => rfl) rfl fun _ _ _ _ => rfl
      · exact two (f := ltD) (fun _ _ => rfl) (fun _ => rfl) rfl fun _ _ _ _ => rfl
      · exact two (f := leD) (fun _ _ => rfl) (fun _ => rfl) rfl fun _ _ _ _ => rfl
      · exact two (f := fun a b => ltD b a) (fun _ _ => rfl) (fun _ => rfl) rfl fun _ _ _ _ => rfl
      · exact two (f := fun a b => leD b a) (fun _ _ => rfl) (fun _ => rfl) rfl fun _ _ _ _ => rfl
      · exact two (f := inD) (fun _ _ => rfl) (fun _ => rfl) rfl fun _ _ _ _ => rfl
      · exact two (f := fun a b => inD a b >>= fun r => pure (!r)) (fun a b => by show (inD a b >>= _) = _; cases inD a b <;> rfl) (fun _ => rfl) rfl fun _ _ _ _ => rfl
    · subst ho
      exact one (fun _ => rfl) rfl fun _ _ _ => rfl
    · subst ho
      exact one (fun _ => rfl) rfl fun _ _ _ => rfl
    · obtain ⟨b, rfl⟩ := ho
      exact tru (f := fun x => decide (x = b)) (fun a => by cases a <;> rfl) rfl fun _ _ _ => rfl
    · obtain ⟨b, rfl⟩ := ho
      exact tru (f := fun x => !decide (x = b)) (fun a => by cases a <;> rfl) rfl fun _ _ _ => rfl
  refine key ?_
  unfold opArgs at h
  split at h
  · cases hc
  · exact .inr (.inl rfl)
  · exact .inr (.inr (.inr (.inl ⟨_, rfl⟩)))
  · exact .inr (.inr (.inr (.inr ⟨_, rfl⟩)))
  · cases hc
  · cases hc
  · cases hc
  · cases hc
  · exact .inr (.inr (.inl rfl))
  · cases hc
  · cases hc
  · cases hc
  · cases hc
  · split at h
    · rename_i hb
      simp only [Bool.and_eq_true, decide_eq_true_iff] at hb
      left
      rw [hb.1]
      exact fun z => by cases z
    · cases h
  · cases hc
  · cases h

def GoodE (cl : Cl) (ie : IE) : Prop := ∀ (tm : Bool) (c : Cfg) (X : Cx) (e : Expr) (O O' : List Nat) (b : Bool) (pn : List (Nat × V)), Ctx c X → CallsOk c X cl → PnOk c pn → chk c tm ie e O = some (O', b) →
  (tm = false → PE X e (tCan X.K pn O O' b (ev cl false ie))) ∧ (tm = true → PT X e (tCanT X.K pn O O' (ev cl true ie)))
def GoodA (cl : Cl) (as : List IE) : Prop := ∀ (c : Cfg) (X : Cx) (es : List Expr) (O O' : List Nat) (pn : List (Nat × V)), Ctx c X → CallsOk c X cl → PnOk c pn → chkA c as es O = some O' →
  as.length = es.length ∧ (∀ i, .o i ∈ as → i ∉ c.dsl) ∧ (∀ i, .od i ∈ as → i ∈ c.dsl) ∧ ∃ ts, PEs X es ts ∧ SimA X.K pn O O' (tL ts) (evA cl as)
def GoodP (cl : Cl) (as : List IE) : Prop := ∀ (c : Cfg) (X : Cx) (e : Option Expr) (O O' : List Nat) (pn : List (Nat × V)), Ctx c X → CallsOk c X cl → PnOk c pn → chkP c as e O = some O' →
  ∃ t, PO X e t ∧ SimP X.K pn O O' t (evP cl as)
def tTsCan (K : PySem.W.Frag) (pn : List (Nat × V)) (O O' : List Nat) (m : MEnv → Res (Bool × MEnv)) : TT := fun σ H Q =>
  ∃ (Φ G : Hp) (ε ε' : MEnv) (k : Bool), Rel K Φ G pn O σ ε H ∧ m ε = .ok (k, ε') ∧ ∀ Φ' H', Rel K Φ' G pn O' σ ε' H' → Same Φ Φ' → Q k H'
def GoodTs (cl : Cl) (as : List IE) : Prop := ∀ (c : Cfg) (X : Cx) (es : List Expr) (O O' : List Nat) (pn : List (Nat × V)), Ctx c X → CallsOk c X cl → PnOk c pn → chkTs c as es O = some O' →
  PTs X es (tTsCan X.K pn O O' (evTs cl as))
theorem PTs.imp {X : Cx} {es : List Expr} {t u : TT} (h : PTs X es t) (q : ∀ σ H Q, u σ H Q → t σ H Q) : PTs X es u := ⟨fun pins s σ H Q I w => h.run pins s σ H Q I (q σ H Q w)⟩
theorem pts_can {X : Cx} {pn : List (Nat × V)} {O O' : List Nat} {es : List Expr} {t : TT} {m : MEnv → Res (Bool × MEnv)} (h : PTs X es t) (s : SimTs X.K pn O O' t m) : PTs X es (tTsCan X.K pn O O' m) :=
  PTs.imp h fun σ H Q ⟨Φ, G, ε, ε', d, R, e, q⟩ => s Φ G σ ε ε' H d Q R e q
theorem simTs_can {K : PySem.W.Frag} {pn : List (Nat × V)} {O O' : List Nat} {m : MEnv → Res (Bool × MEnv)} : SimTs K pn O O' (tTsCan K pn O O' m) m := fun Φ G σ ε ε' H d Q R e q => ⟨Φ, G, ε, ε', d, R, e, q⟩
end Mir
/-! Mir, part M: the check of expressions is sound, node by node. -/
namespace Mir
open PySem PySem.Spec L2
section
variable {cl : Cl}
theorem good_c (d : D) : GoodE cl (.c d) := by
  intro tm c X e O O' b pn C CC hp h
  unfold chk at h
  split at h
  · rename_i k j pos
    split at h
    · cases h
      rename_i hc
      rw [Bool.and_eq_true] at hc
      have key : ∃ v, PE X (.Constant k j pos) (tC v) ∧ (∀ Φ, Dp X.K Φ v d) ∧ ∀ ds, d ≠ .list ds := by
        have h1 := hc.1
        cases k <;> cases d <;> first | cases h1 | skip
        · exact ⟨.non, pe_non, fun _ => .non, fun _ z => nomatch z⟩
        · have := eq_of_beq (show (_ == _) = true from h1)
          subst this
          exact ⟨.bl _, pe_bl, fun _ => .bl _, fun _ z => nomatch z⟩
        · have := of_decide_eq_true (show decide _ = true from h1)
          subst this
          exact ⟨.int _, pe_int, fun _ => .int _, fun _ z => nomatch z⟩
        · have := of_decide_eq_true (show decide _ = true from h1)
          subst this
          exact ⟨.str _, pe_str, fun _ => .str _, fun _ z => nomatch z⟩
      obtain ⟨v, p1, p2, p3⟩ := key
      exact atom_ok rfl p1 (sim_const p2 p3) hc.2 fun _ z => nomatch z
    · cases h
  · rename_i x pos
    split at h
    · cases h
      rename_i hc
      simp only [Bool.and_eq_true, List.any_eq_true, decide_eq_true_iff] at hc
      obtain ⟨⟨hg, ⟨y, d'⟩, hp', hx, hd⟩, hok⟩ := hc
      dsimp only at hx hd
      subst hx
      cases scEq_ok hd
      obtain ⟨v, u, m1, m2, m3, m4⟩ := C.cn _ hp'
      exact atom_ok rfl (pe_glob (C.gl hg).1 m1 m2 (C.gl hg).2.1) (sim_const m3 fun ds z => by dsimp only at z m4; rw [z] at m4; cases m4) hok fun _ z => nomatch z
    · cases h
  · cases h
theorem good_v (i : Nat) : GoodE cl (.v i) := by
  intro tm c X e O O' b pn C CC hp h
  unfold chk at h
  split at h
  · split at h
    · cases h
      rename_i hc
      rw [Bool.and_eq_true] at hc
      have hv := hc.1
      unfold varIs at hv
      rw [Bool.and_eq_true, decide_eq_true_iff] at hv
      exact atom_ok rfl (C.var hv.1) (sim_var i (hp.no hv.2)) hc.2 fun _ z => nomatch z
    · cases h
  · cases h
theorem good_o (i : Nat) : GoodE cl (.o i) := by
  intro tm c X e O O' b pn C CC hp h
  unfold chk at h
  split at h
  · split at h
    · cases h
      rename_i hc
      rw [Bool.and_eq_true] at hc
      have ht := hc.2
      subst ht
      have hv := hc.1
      unfold varIs at hv
      rw [Bool.and_eq_true, decide_eq_true_iff] at hv
      exact ⟨fun z => (nomatch z), fun _ => pt_can (pt_truth (C.var hv.1) fun w => plain_is rfl _ _) (simT_slot (hp.no hv.2))⟩
    · cases h
  · cases h
theorem good_mv (i : Nat) : GoodE cl (.mv i) := by
  intro tm c X e O O' b pn C CC hp h
  unfold chk at h
  split at h
  · split at h
    · cases h
      rename_i hc
      unfold varIs at hc
      simp only [Bool.and_eq_true, decide_eq_true_iff, Bool.not_eq_true'] at hc
      refine ⟨fun _ => pe_can (C.var hc.1.1.1.1) (sim_mv hc.1.2 (hp.no hc.1.1.1.2)), fun z => ?_⟩
      rw [z] at hc
      exact absurd hc.1.1.2 (by decide)
    · cases h
  · cases h
theorem noDA_of {c : Cfg} {pn : List (Nat × V)} (hp : PnOk c pn) {as : List IE} (n1 : ∀ i, .o i ∈ as → i ∉ c.dsl) (n2 : as.all (fun a => !isOD a) = true) : NoDA pn as := fun i h => by
  rcases h with h | h
  · exact hp.no (n1 i h)
  · have := List.all_eq_true.mp n2 _ h
    cases this
theorem good_od (i : Nat) : GoodE cl (.od i) := by
  intro tm c X e O O' b pn C CC hp h
  unfold chk at h
  split at h
  · split at h
    · cases h
      rename_i hc
      simp only [Bool.and_eq_true] at hc
      refine ⟨fun z => ?_, fun z => ?_⟩
      · rw [z] at hc
        cases hc.1.2
      · exact pt_can (pt_truth (C.var (by have := hc.1.1; unfold dicIs at this; rw [Bool.and_eq_true] at this; exact this.1)) fun w => plain_is rfl _ _) (fun Φ G σ ε ε' H d Q R e q => by
          cases e)
    · cases h
  · cases h
theorem noSl_of {b : Expr} (h : plainIx b = true) : NoSl b := fun ov iv => by
  cases b <;> first | rfl | cases h
theorem good_dget {i : Nat} {k : IE} (ik : GoodE cl k) : GoodE cl (.dget i k) := by
  intro tm c X e O O' b pn C CC hp h
  unfold chk at h
  split at h
  · rename_i x px ix pos
    split at h
    · rename_i hc
      unfold dicIs at hc
      simp only [Bool.and_eq_true, decide_eq_true_iff] at hc
      obtain ⟨⟨⟨⟨c1, c2⟩, c3⟩, c4⟩, c5⟩ := hc
      split at h
      · rename_i O1 b1 h1
        split at h
        · cases h
          rename_i hi1
          obtain ⟨a1, _⟩ := ik false c X _ O O' b1 pn C CC hp h1
          have hu := C.un
          exact atom_ok rfl (pe_gget (by omega) (C.var c1) (a1 rfl) (noSl_of c4)) (sim_dget c3 (of_decide_eq_true hi1) sim_can) c5 fun _ z => nomatch z
        · cases h
      · cases h
    · cases h
  · cases h
theorem good_din {neg : Bool} {i : Nat} {k : IE} (ik : GoodE cl k) : GoodE cl (.din neg k i) := by
  intro tm c X e O O' b pn C CC hp h
  unfold chk at h
  split at h
  · rename_i kx op x px pos
    split at h
    · rename_i hc
      unfold dicIs at hc
      simp only [Bool.and_eq_true, decide_eq_true_iff] at hc
      obtain ⟨⟨c1, c2⟩, c3⟩ := hc
      split at h
      · rename_i O1 b1 h1
        split at h
        · cases h
          rename_i hi1
          obtain ⟨a1, _⟩ := ik false c X _ O O' b1 pn C CC hp h1
          have hu : X.A.units + 20 < cLine := by have := C.un; omega
          have pc : PC X op kx (.Name x px) (tGIn X.K neg (tCan X.K pn O O' b1 (ev cl false k)) (tVar i)) := by
            subst c3
            cases neg with
            | false => exact pc_gin hu (a1 rfl) (C.var c1)
            | true => exact pc_gnotin hu (a1 rfl) (C.var c1)
          have sm := sim_din (K := X.K) (pn := pn) (neg := neg) (i := i) (cl := cl) (k := k) (b := b1) (O := O) (of_decide_eq_true hi1) (sim_can (m := ev cl false k))
          have mk : behindInMarks op (.Name x px) = false := by cases op <;> rfl
          exact ⟨fun _ => pe_can (pe_cmp pc mk) sm, fun _ => pt_can (pt_cmp pc mk) (simT_test (fun ε r ε' hev => din_bool hev) (fun ε => din_same ε) sm)⟩
        · cases h
      · cases h
    · cases h
  · cases h
theorem good_p {op : Pr} {as : List IE} (ih : GoodA cl as) : GoodE cl (.p op as) := by
  intro tm c X e O O' b pn C CC hp h
  unfold chk at h
  split at h
  · rename_i es he
    split at h
    · rename_i O1 ha
      split at h
      · cases h
        rename_i hc
        rw [Bool.and_eq_true] at hc
        obtain ⟨_, n1, n2, ts, p1, p2⟩ := ih c X es O O' pn C CC hp ha
        obtain ⟨q1, q2⟩ := op_sound C he p1
        refine atom_ok rfl q1 (sim_op (noDA_of hp n1 hc.2) p2) hc.1 fun _ hcm => ⟨q2 hcm, fun ε r ε' hev => ?_⟩
        obtain ⟨⟨os, ε1⟩, h1, e1⟩ := Res.bind_eq_ok.mp hev
        obtain ⟨ds, h2, e2⟩ := Res.bind_eq_ok.mp e1
        obtain ⟨r', h3, e3⟩ := Res.bind_eq_ok.mp e2
        obtain ⟨rfl, rfl⟩ := fin_ok e3
        exact cmp_bool he hcm _ _ h3
      · cases h
    · cases h
  · cases h
theorem good_call {f : Nat} {as : List IE} {outs : List Nat} (ih : GoodA cl as) : GoodE cl (.call f as outs) := by
  intro tm c X e O O' b pn C CC hp h
  unfold chk at h
  split at h
  · split at h
    · split at h
      · cases h
        rename_i hc
        rw [Bool.and_eq_true] at hc
        obtain ⟨hs, hc⟩ := hc
        unfold starsNo at hs
        simp only [Bool.and_eq_true, decide_eq_true_iff, Bool.not_eq_true'] at hs
        obtain ⟨⟨⟨⟨⟨⟨⟨⟨⟨n1, n2⟩, n3⟩, n4⟩, n5⟩, n6⟩, n7⟩, n8⟩, n9⟩, n10⟩ := hs
        subst n1
        obtain ⟨_, k1, k2, ts, q1, q2⟩ := ih c X _ O O' pn C CC hp (by assumption)
        obtain ⟨fa, fd, k, m1, m2, m3, m4, m5⟩ := CC.fn f _ (by assumption)
        obtain ⟨g1, g2, g3⟩ := C.gl n2
        exact atom_ok rfl (pe_callG m5 m4 C.gd g1 m1 m2 m3 g2 n3 q1) (sim_call q2 n5 n6 n7 n8 (subS_ok n9) n4 n10 (fun i hi => hp.no (k1 i hi)) fun i hi => hp.has i (k2 i hi)) hc fun _ z => nomatch z
      · cases h
    · cases h
  · cases h
theorem PEs.snoc {X : Cx} {e : Expr} {t : TE} (h : PE X e t) (hs : isStar e = false) : ∀ {es : List Expr} {ts : List TE}, PEs X es ts → PEs X (es ++ [e]) (ts ++ [t])
  | _, _, .nil => .cons h hs .nil
  | _, _, .cons a b c => .cons a b (PEs.snoc h hs c)
theorem good_rg {t : Bool} {as : List IE} (ih : GoodA cl as) : GoodE cl (.rg t as) := by
  intro tm c X e O O' b pn C CC hp h
  unfold chk at h
  split at h
  · rename_i f pf g pg es p1 p2
    split at h
    · rename_i O1 ha
      split at h
      · cases h
        rename_i hc
        simp only [Bool.and_eq_true, decide_eq_true_iff] at hc
        obtain ⟨⟨⟨⟨⟨⟨rfl, n2⟩, rfl⟩, n4⟩, n5⟩, n7⟩, n6⟩ := hc
        rw [Bool.or_eq_true, decide_eq_true_iff, decide_eq_true_iff] at n7
        obtain ⟨l, _, _, ts, q1, q2⟩ := ih c X _ O O' pn C CC hp ha
        obtain ⟨g1, _, _, g4⟩ := C.bl n2
        obtain ⟨r1, _, _, r4⟩ := C.bl n4
        have out : ∀ {te}, PRg X (.Call (.Name "range" pg) es [] p1) te → PE X (.Call (.Name (rgName t) pf) [.Call (.Name "range" pg) es [] p1] [] p2) (tRgO t te) := fun {te} he => by
          cases t with
          | true => exact pe_tupRg C.calm g1 g4 he
          | false => exact pe_listRg C.calm g1 g4 he
        clear ha
        match es, ts, q1, l with
        | [a], [ta], .cons pa sa .nil, l => exact atom_ok rfl (out (prg_1 r1 r4 pa (star_no sa))) (sim_rg1 l n5 q2) n6 fun _ z => nomatch z
        | [a, b], [ta, tb], .cons pa sa (.cons pb sb .nil), l => exact atom_ok rfl (out (prg_2 r1 r4 pa pb (star_no sa) (star_no sb) ((PEs.cons pb sb .nil).noStar p1))) (sim_rg2 l n5 q2) n6 fun _ z => nomatch z
        | [], _, _, l => rw [List.length_nil] at l; omega
        | _ :: _ :: _ :: _, _, _, l => simp only [List.length_cons] at l; omega
      · cases h
    · cases h
  · cases h
theorem good_callD {f : Nat} {as : List IE} {t : Bool} (ih : GoodA cl as) : GoodE cl (.callD f as t) := by
  intro tm c X e O O' b pn C CC hp h
  unfold chk at h
  split at h
  · rename_i x px es pos
    split at h
    · rename_i pd rs hrev
      have hes : es = rs.reverse ++ [.Dict [] [] pd] := by
        rw [← List.reverse_reverse es, hrev, List.reverse_cons]
      split at h
      · rename_i fs O1 hf ha
        split at h
        · rename_i hc
          cases h
          simp only [Bool.and_eq_true, decide_eq_true_iff] at hc
          obtain ⟨⟨⟨⟨⟨⟨n1, n2⟩, n3⟩, n4⟩, n5⟩, n6⟩, n7⟩ := hc
          subst n1
          obtain ⟨_, k1, k2, ts, q1, q2⟩ := ih c X _ O O' pn C CC hp ha
          obtain ⟨fa, fd, k, m1, m2, m3, m4, m5⟩ := CC.fn f _ hf
          obtain ⟨g1, g2, g3⟩ := C.gl n2
          have pd' : PE X (.Dict [] [] pd) (tNewD t) := by
            cases t with
            | false => exact pe_dnewK
            | true => exact pe_gnewT
          have hne : es.isEmpty = false := by
            rw [hes]
            cases rs.reverse <;> rfl
          refine atom_ok rfl (pe_callG m5 m4 C.gd g1 m1 m2 m3 g2 hne (by rw [hes]; exact PEs.snoc pd' rfl q1)) (sim_callD q2 n4 n5 n3 n6) n7 fun _ z => nomatch z
        · cases h
      · cases h
    · cases h
  · cases h
theorem good_disp {t : Bool} {as : List IE} (ih : GoodA cl as) : GoodE cl (.disp t as) := by
  intro tm c X e O O' b pn C CC hp h
  unfold chk at h
  split at h
  · split at h
    · rename_i O1 ha
      split at h
      · cases h
        rename_i hc
        rw [Bool.and_eq_true] at hc
        obtain ⟨_, _, _, ts, q1, q2⟩ := ih c X _ O O' pn C CC hp ha
        exact atom_ok rfl (pe_tup q1.pa) (sim_disp (t := true) hc.1 q2) hc.2 fun _ z => nomatch z
      · cases h
    · cases h
  · split at h
    · rename_i O1 ha
      split at h
      · cases h
        rename_i hc
        rw [Bool.and_eq_true] at hc
        obtain ⟨_, _, _, ts, q1, q2⟩ := ih c X _ O O' pn C CC hp ha
        exact atom_ok rfl (pe_lst q1.pa) (sim_disp (t := false) hc.1 q2) hc.2 fun _ z => nomatch z
      · cases h
    · cases h
  · cases h
theorem good_cut {x lo hi : List IE} (ix : GoodA cl x) (il : GoodP cl lo) (ih : GoodP cl hi) : GoodE cl (.cut x lo hi) := by
  intro tm c X e O O' b pn C CC hp h
  unfold chk at h
  split at h
  · split at h
    · rename_i O1 h1
      split at h
      · rename_i O2 h2
        split at h
        · rename_i O3 h3
          split at h
          · cases h
            rename_i hc
            rw [Bool.and_eq_true] at hc
            obtain ⟨l1, k1, k2, ts, q1, q2⟩ := ix c X _ O O1 pn C CC hp h1
            obtain ⟨t, rfl, q3⟩ := q1.one
            obtain ⟨tl, q4, q5⟩ := il c X _ O1 O2 pn C CC hp h2
            obtain ⟨th, q6, q7⟩ := ih c X _ O2 O' pn C CC hp h3
            exact atom_ok rfl (pe_slice sl_ok q3 q4 q6) (sim_cut (noDA_of hp k1 hc.2) l1 q2 q5 q7) hc.1 fun _ z => nomatch z
          · cases h
        · cases h
      · cases h
    · cases h
  · cases h
theorem good_and {a b : IE} (ia : GoodE cl a) (ib : GoodE cl b) : GoodE cl (.and a b) := by
  intro tm c X e O O' bb pn C CC hp h
  unfold chk at h
  split at h
  · rename_i x y r pos
    split at h
    · rename_i O1 b1 h1
      split at h
      · rename_i O2 b2 h2
        split at h
        · cases h
          rename_i hc
          have w := subS_ok hc
          obtain ⟨a1, a2⟩ := ia tm c X x O O1 b1 pn C CC hp h1
          obtain ⟨c1, c2⟩ := ib tm c X _ O1 O' b2 pn C CC hp h2
          refine ⟨fun z => ?_, fun z => ?_⟩
          · subst z
            cases r with
            | nil => exact pe_can (pe_andT (a1 rfl) (pe_one (c1 rfl))) (sim_and sim_can sim_can w)
            | cons r0 rs => exact pe_can (pe_andT (a1 rfl) (c1 rfl)) (sim_and sim_can sim_can w)
          · subst z
            have hA := a2 rfl
            have hB := c2 rfl
            cases r with
            | nil => exact pt_can (pw_and hA (pw_and1 hB)).pt (simT_and simT_can simT_can w)
            | cons r0 rs => exact pt_can (pw_and hA ⟨fun wh pins s σ H Q I q => hB.run pins s σ H Q I q⟩).pt (simT_and simT_can simT_can w)
        · cases h
      · cases h
    · cases h
  · cases h
theorem good_or {a b : IE} (ia : GoodE cl a) (ib : GoodE cl b) : GoodE cl (.or a b) := by
  intro tm c X e O O' bb pn C CC hp h
  unfold chk at h
  split at h
  · rename_i x y r pos
    split at h
    · rename_i O1 b1 h1
      split at h
      · rename_i O2 b2 h2
        split at h
        · cases h
          rename_i hc
          have w := subS_ok hc
          obtain ⟨a1, a2⟩ := ia tm c X x O O1 b1 pn C CC hp h1
          obtain ⟨c1, c2⟩ := ib tm c X _ O1 O' b2 pn C CC hp h2
          refine ⟨fun z => ?_, fun z => ?_⟩
          · subst z
            cases r with
            | nil => exact pe_can (pe_orT (a1 rfl) (pe_one (c1 rfl))) (sim_or sim_can sim_can w)
            | cons r0 rs => exact pe_can (pe_orT (a1 rfl) (c1 rfl)) (sim_or sim_can sim_can w)
          · subst z
            have hA := a2 rfl
            have hB := c2 rfl
            cases r with
            | nil => exact pt_can (pw_or hA (pw_or1 hB)).pt (simT_or simT_can simT_can w)
            | cons r0 rs => exact pt_can (pw_or hA ⟨fun wh pins s σ H Q I q => hB.run pins s σ H Q I q⟩).pt (simT_or simT_can simT_can w)
        · cases h
      · cases h
    · cases h
  · cases h
theorem good_not {a : IE} (ia : GoodE cl a) : GoodE cl (.not a) := by
  intro tm c X e O O' bb pn C CC hp h
  unfold chk at h
  split at h
  · split at h
    · cases h
      rename_i O1 b1 h1
      obtain ⟨a1, a2⟩ := ia tm c X _ O O' b1 pn C CC hp h1
      refine ⟨fun z => ?_, fun z => ?_⟩
      · subst z
        exact pe_can (pe_not (a1 rfl)) (sim_not sim_can)
      · subst z
        exact pt_can (pt_not (a2 rfl)) (simT_not simT_can)
    · cases h
  · cases h
theorem good_ifx {t a b : IE} (it : GoodE cl t) (ia : GoodE cl a) (ib : GoodE cl b) : GoodE cl (.ifx t a b) := by
  intro tm c X e O O' bb pn C CC hp h
  unfold chk at h
  split at h
  · split at h
    · cases h
    · rename_i htm
      split at h
      · rename_i O1 b1 h1
        split at h
        · cases h
          rename_i O2 b2 O3 b3 h2 h3
          obtain ⟨_, t2⟩ := it true c X _ O O1 b1 pn C CC hp h1
          obtain ⟨a1, _⟩ := ia false c X _ O1 O2 b2 pn C CC hp h2
          obtain ⟨c1, _⟩ := ib false c X _ O1 O3 b3 pn C CC hp h3
          refine ⟨fun _ => ?_, fun z => absurd z htm⟩
          exact pe_can (pe_ifExp (t2 rfl) (a1 rfl) (c1 rfl)) (sim_ifx simT_can sim_can sim_can (fun i hi => (interS_ok.mp hi).1) fun i hi => (interS_ok.mp hi).2)
        · cases h
      · cases h
  · cases h
theorem good_chain {o1 o2 : Pr} {a b d : IE} (ia : GoodE cl a) (ib : GoodE cl b) (id : GoodE cl d) : GoodE cl (.chain o1 o2 a b d) := by
  intro tm c X e O O' bb pn C CC hp h
  unfold chk at h
  split at h
  · split at h
    · rename_i hc
      simp only [Bool.and_eq_true, decide_eq_true_iff, Bool.not_eq_true'] at hc
      split at h
      · rename_i O1 b1 h1
        split at h
        · rename_i O2 b2 h2
          split at h
          · rename_i O3 b3 h3
            split at h
            · cases h
              rename_i hs
              obtain ⟨a1, _⟩ := ia false c X _ O O1 b1 pn C CC hp h1
              obtain ⟨c1, _⟩ := ib false c X _ O1 O2 b2 pn C CC hp h2
              obtain ⟨e1, _⟩ := id false c X _ O2 O' b3 pn C CC hp h3
              have w := subS_ok hs
              have k1 := cmp_ok (X := X) C.un hc.1.1
              have k2 := cmp_ok (X := X) C.un hc.1.2
              have sm := sim_chain (K := X.K) (pn := pn) (cl := cl) (o1 := o1) (o2 := o2) (O := O) (O1 := O1) (x := b1) (y := b2) (z := b3) (sim_can (m := ev cl false a)) (sim_can (m := ev cl false b)) (sim_can (m := ev cl false d)) w
              refine ⟨fun _ => pe_can (pe_chain k1 k2 (a1 rfl) (c1 rfl) (e1 rfl) hc.2) sm, fun _ => pt_can (pt_chain k1 k2 (a1 rfl) (c1 rfl) (e1 rfl) hc.2) (simT_test (fun ε r ε' hev => ?_) (fun _ => rfl) sm)⟩
              obtain ⟨⟨r1, ε1⟩, z1, e1⟩ := Res.bind_eq_ok.mp hev
              obtain ⟨⟨r2, ε2⟩, z2, e2⟩ := Res.bind_eq_ok.mp e1
              obtain ⟨r3, z3, e3⟩ := Res.bind_eq_ok.mp e2
              obtain ⟨k, z4, e4⟩ := Res.bind_eq_ok.mp e3
              cases k with
              | true =>
                obtain ⟨⟨r4, ε3⟩, z5, e5⟩ := Res.bind_eq_ok.mp e4
                obtain ⟨r5, z6, e6⟩ := Res.bind_eq_ok.mp e5
                obtain ⟨k2, z7, e7⟩ := Res.bind_eq_ok.mp e6
                cases e7
                exact ⟨_, rfl⟩
              | false =>
                cases e4
                exact ⟨_, rfl⟩
            · cases h
          · cases h
        · cases h
      · cases h
    · cases h
  · cases h
theorem good_chain3 {o1 o2 o3 : Pr} {a b d f : IE} (ia : GoodE cl a) (ib : GoodE cl b) (id : GoodE cl d) (iff' : GoodE cl f) : GoodE cl (.chain3 o1 o2 o3 a b d f) := by
  intro tm c X e O O' bb pn C CC hp h
  unfold chk at h
  split at h
  · split at h
    · rename_i hc
      simp only [Bool.and_eq_true, decide_eq_true_iff, Bool.not_eq_true'] at hc
      split at h
      · rename_i O1 b1 h1
        split at h
        · rename_i O2 b2 h2
          split at h
          · rename_i O3 b3 h3
            split at h
            · rename_i O4 b4 h4
              split at h
              · cases h
                rename_i hs
                simp only [Bool.and_eq_true] at hs
                obtain ⟨a1, _⟩ := ia false c X _ O O1 b1 pn C CC hp h1
                obtain ⟨c1, _⟩ := ib false c X _ O1 O2 b2 pn C CC hp h2
                obtain ⟨e1, _⟩ := id false c X _ O2 O3 b3 pn C CC hp h3
                obtain ⟨f1, _⟩ := iff' false c X _ O3 O' b4 pn C CC hp h4
                have k1 := cmp_ok (X := X) C.un hc.1.1.1
                have k2 := cmp_ok (X := X) C.un hc.1.1.2
                have k3 := cmp_ok (X := X) C.un hc.1.2
                have sm := sim_chain3 (K := X.K) (pn := pn) (cl := cl) (o1 := o1) (o2 := o2) (o3 := o3) (O := O) (O1 := O1) (x := b1) (y := b2) (z := b3) (u := b4) (sim_can (m := ev cl false a)) (sim_can (m := ev cl false b)) (sim_can (m := ev cl false d)) (sim_can (m := ev cl false f)) (subS_ok hs.1) (subS_ok hs.2)
                refine ⟨fun _ => pe_can (pe_chain3 k1 k2 k3 (a1 rfl) (c1 rfl) (e1 rfl) (f1 rfl) hc.2) sm, fun _ => pt_can (pt_chain3 k1 k2 k3 (a1 rfl) (c1 rfl) (e1 rfl) (f1 rfl) hc.2) (simT_test (fun ε r ε' hev => ?_) (fun _ => rfl) sm)⟩
                obtain ⟨⟨r1, ε1⟩, z1, e1⟩ := Res.bind_eq_ok.mp hev
                obtain ⟨⟨r2, ε2⟩, z2, e2⟩ := Res.bind_eq_ok.mp e1
                obtain ⟨r3, z3, e3⟩ := Res.bind_eq_ok.mp e2
                obtain ⟨k, z4, e4⟩ := Res.bind_eq_ok.mp e3
                cases k with
                | true =>
                  obtain ⟨⟨r4, ε3⟩, z5, e5⟩ := Res.bind_eq_ok.mp e4
                  obtain ⟨r5, z6, e6⟩ := Res.bind_eq_ok.mp e5
                  obtain ⟨k2, z7, e7⟩ := Res.bind_eq_ok.mp e6
                  cases k2 with
                  | true =>
                    obtain ⟨⟨r6, ε4⟩, z8, e8⟩ := Res.bind_eq_ok.mp e7
                    obtain ⟨r7, z9, e9⟩ := Res.bind_eq_ok.mp e8
                    obtain ⟨k3, z10, e10⟩ := Res.bind_eq_ok.mp e9
                    cases e10
                    exact ⟨_, rfl⟩
                  | false =>
                    cases e7
                    exact ⟨_, rfl⟩
                | false =>
                  cases e4
                  exact ⟨_, rfl⟩
              · cases h
            · cases h
          · cases h
        · cases h
      · cases h
    · cases h
  · cases h
theorem good_pop {i : Nat} {as : List IE} (iA : GoodA cl as) : GoodE cl (.pop i as) := by
  intro tm c X e O O' bb pn C CC hp h
  unfold chk at h
  split at h
  · rename_i x px m apos es cpos
    split at h
    · rename_i hc
      simp only [Bool.and_eq_true, decide_eq_true_iff] at hc
      obtain ⟨⟨⟨⟨⟨⟨c1, rfl⟩, c3⟩, c4⟩, c5⟩, c6⟩, c7⟩ := hc
      split at h
      · rename_i O1 h1
        split at h
        · cases h
          rename_i hi1
          have hi1 := of_decide_eq_true hi1
          obtain ⟨l, _, _, ts, q1, q2⟩ := iA c X es O O' pn C CC hp h1
          match as, es, l, q1, q2, c6, c7, h1 with
          | [], [], _, q1, q2, _, _, h1 =>
            have e1 : chkA c [] [] O = some O := by unfold chkA; rfl
            rw [e1] at h1
            cases h1
            exact atom_ok rfl (pe_bm0 PySem.F.plainAttrs_list PySem.F.slot_list_pop PySem.F.type_list_pop mt_pop (C.var c1) (hline := c3)) (sim_pop0 c4) c5 fun _ z => nomatch z
          | [a], [ea], _, q1, q2, c6, _, _ =>
            have hst := q1.star1
            have h1 : starEach [ea] X.env = (false, eval ea X.env) :: starEach [] X.env := star_no hst
            refine atom_ok rfl (pe_bm PySem.F.plainAttrs_list PySem.F.slot_list_pop PySem.F.type_list_pop mt_popAt (C.var c1) q1.pa (hfew := ?_) (hline := c3) (hs := h1) (hplain := rfl)) (sim_pop1 c6 q2 c4 hi1) c5 fun _ z => nomatch z
            rw [h1]
            rfl
          | _ :: _ :: _, _, _, _, _, _, c7, _ => simp at c7
        · cases h
      · cases h
    · cases h
  · cases h
theorem good_rep {t : Bool} {x k : IE} (ix : GoodE cl x) (ik : GoodE cl k) : GoodE cl (.rep t x k) := by
  intro tm c X e O O' bb pn C CC hp h
  unfold chk at h
  split at h
  · rename_i ex p1 ek p2
    split at h
    · cases h
    · rename_i hst
      split at h
      · rename_i O1 b1 h1
        split at h
        · rename_i O2 b2 h2
          split at h
          · cases h
            rename_i hok
            obtain ⟨a1, _⟩ := ix false c X _ O O1 b1 pn C CC hp h1
            obtain ⟨c1, _⟩ := ik false c X _ O1 O' b2 pn C CC hp h2
            have hst : isStar ex = false := by simpa using hst
            exact atom_ok rfl (pe_op op_rep (pe_lst (PEs.cons (a1 rfl) hst PEs.nil).pa) (c1 rfl)) (sim_rep sim_can sim_can) hok fun _ z => nomatch z
          · cases h
        · cases h
      · cases h
  · cases h
theorem good_mth {op : Pr} {x y : IE} (ix : GoodE cl x) (iy : GoodE cl y) : GoodE cl (.mth op x y) := by
  intro tm c X e O O' bb pn C CC hp h
  unfold chk at h
  split at h
  · split at h
    · rename_i a m apos b cpos hc
      simp only [Bool.and_eq_true, decide_eq_true_iff, Bool.not_eq_true'] at hc
      obtain ⟨⟨⟨⟨hm, hb⟩, hl⟩, hst⟩, hok⟩ := hc
      split at h
      · rename_i O1 b1 h1
        split at h
        · rename_i O2 b2 h2
          cases h
          obtain ⟨a1, _⟩ := ix false c X _ O O1 b1 pn C CC hp h1
          obtain ⟨c1, _⟩ := iy false c X _ O1 O' b2 pn C CC hp h2
          exact atom_ok rfl (pe_mth C.un hm hb hl (star_no hst) (a1 rfl) (PEs.cons (c1 rfl) hst PEs.nil).pa) (sim_mth hm sim_can sim_can) hok fun _ z => nomatch z
        · cases h
      · cases h
    · cases h
  · cases h
/-! ### lists of nodes -/
theorem goodA_nil : GoodA cl [] := by
  intro c X es O O' pn C CC hp h
  unfold chkA at h
  split at h
  · cases h
    exact ⟨rfl, fun _ z => (nomatch z), fun _ z => (nomatch z), [], .nil, simA_nil⟩
  · cases h
theorem goodA_cons {a : IE} {as : List IE} (ia : GoodE cl a) (ir : GoodA cl as) : GoodA cl (a :: as) := by
  intro c X es O O' pn C CC hp h
  unfold chkA at h
  split at h
  · cases h
  · rename_i e es
    split at h
    · rename_i ho
      split at h
      · rename_i p hq
        split at h
        · cases h
        · rename_i hs
          cases a with
          | o i =>
            have hv : ∃ x pos, e = .Name x pos ∧ slotIs c i x = true ∧ i ∉ c.dsl := by
              unfold chk at hq
              split at hq
              · split at hq
                · rename_i hc
                  unfold varIs at hc
                  simp only [Bool.and_eq_true, decide_eq_true_iff] at hc
                  exact ⟨_, _, rfl, hc.1.1, hc.1.2⟩
                · cases hq
              · cases hq
            obtain ⟨x, pos, rfl, hv, hn⟩ := hv
            obtain ⟨l, k1, k2, ts, p1, p2⟩ := ir c X es O O' pn C CC hp h
            refine ⟨congrArg (· + 1) l, fun j hj => ?_, fun j hj => ?_, tVar i :: ts, .cons (C.var hv) rfl p1, simA_o (hp.no hn) p2⟩
            · rcases List.mem_cons.mp hj with z | z
              · cases z
                exact hn
              · exact k1 j z
            · rcases List.mem_cons.mp hj with z | z
              · cases z
              · exact k2 j z
          | od i =>
            have hv : ∃ x pos, e = .Name x pos ∧ slotIs c i x = true ∧ i ∈ c.dsl ∧ i ∈ O := by
              unfold chk at hq
              split at hq
              · split at hq
                · rename_i hc
                  unfold dicIs at hc
                  simp only [Bool.and_eq_true, decide_eq_true_iff] at hc
                  exact ⟨_, _, rfl, hc.1.1.1, hc.1.1.2, hc.2⟩
                · cases hq
              · cases hq
            obtain ⟨x, pos, rfl, hv, hn, hO⟩ := hv
            obtain ⟨l, k1, k2, ts, p1, p2⟩ := ir c X es O O' pn C CC hp h
            refine ⟨congrArg (· + 1) l, fun j hj => ?_, fun j hj => ?_, tVar i :: ts, .cons (C.var hv) rfl p1, simA_od hO p2⟩
            · rcases List.mem_cons.mp hj with z | z
              · cases z
              · exact k1 j z
            · rcases List.mem_cons.mp hj with z | z
              · cases z
                exact hn
              · exact k2 j z
          | _ => cases ho
      · cases h
    · rename_i ho
      split at h
      · cases h
      · rename_i hs
        split at h
        · rename_i O1 b1 h1
          obtain ⟨a1, _⟩ := ia false c X e O O1 b1 pn C CC hp h1
          obtain ⟨l, k1, k2, ts, p1, p2⟩ := ir c X es O1 O' pn C CC hp h
          refine ⟨congrArg (· + 1) l, fun j hj => ?_, fun j hj => ?_, _ :: ts, .cons (a1 rfl) (by simpa using hs) p1, simA_cons (by simpa using ho) sim_can p2⟩
          · rcases List.mem_cons.mp hj with z | z
            · rw [← z] at ho
              exact absurd rfl ho
            · exact k1 j z
          · rcases List.mem_cons.mp hj with z | z
            · rw [← z] at ho
              exact absurd rfl ho
            · exact k2 j z
        · cases h
theorem goodP_nil : GoodP cl [] := by
  intro c X e O O' pn C CC hp h
  unfold chkP at h
  split at h
  · cases h
    exact ⟨_, po_none, simP_none⟩
  · cases h
theorem goodP_cons {a : IE} {as : List IE} (ia : GoodE cl a) : GoodP cl (a :: as) := by
  intro c X e O O' pn C CC hp h
  unfold chkP at h
  split at h
  · split at h
    · rename_i hn
      split at h
      · cases h
        rename_i O1 b1 h1
        obtain ⟨a1, _⟩ := ia false c X _ O O' b1 pn C CC hp h1
        have : as = [] := by simpa using hn
        subst this
        exact ⟨_, po_some (a1 rfl), simP_some sim_can⟩
      · cases h
    · cases h
  · cases h
theorem goodTs_nil : GoodTs cl [] := by
  intro c X e O O' pn C CC hp h
  unfold chkTs at h
  split at h
  · cases h
    exact pts_can pts_nil simTs_nil
  · cases h
theorem goodTs_cons {a : IE} {as : List IE} (ia : GoodE cl a) : GoodTs cl (a :: as) := by
  intro c X e O O' pn C CC hp h
  unfold chkTs at h
  split at h
  · split at h
    · rename_i hn
      split at h
      · cases h
        rename_i O1 b1 h1
        obtain ⟨_, a2⟩ := ia true c X _ O O' b1 pn C CC hp h1
        have : as = [] := by simpa using hn
        subst this
        exact pts_can (pts_one (a2 rfl)) (simTs_one simT_can)
      · cases h
    · cases h
  · cases h
end
end Mir
/-! Mir, part N: comprehensions; the check of expressions is sound. -/
namespace Mir
open PySem PySem.Spec L2
section
variable {cl : Cl}
def tgR (K : PySem.W.Frag) : Tg → TG
  | .nm i => gName i
  | .tp is => gSeq K is.length (gNames is)
theorem nmIs_ok {c : Cfg} {X : Cx} (C : Ctx c X) {i : Nat} {e : Expr} (h : nmIs c i e = true) : PG X e (gName i) ∧ ∃ x pos, e = .Name x pos := by
  cases e with
  | Name x pos => exact ⟨C.loc h, x, pos, rfl⟩
  | _ => cases h
theorem nms_ok {c : Cfg} {X : Cx} (C : Ctx c X) : ∀ {is : List Nat} {es : List Expr}, nmsAre c is es = true → PGs X es (gNames is) ∧ (assignEach es X.env).length = is.length ∧ (assignEach es X.env).findIdx? (·.1) = none
  | [], [], _ => ⟨pgs_nil, rfl, rfl⟩
  | [], _ :: _, h => by cases h
  | _ :: _, [], h => by cases h
  | i :: is, e :: es, h => by
    have h : (nmIs c i e && nmsAre c is es) = true := h
    rw [Bool.and_eq_true] at h
    obtain ⟨p, x, pos, rfl⟩ := nmIs_ok C h.1
    obtain ⟨q, l, f⟩ := nms_ok C h.2
    refine ⟨pgs_cons p q, congrArg (· + 1) l, ?_⟩
    show ((false, assign (.Name x pos) X.env) :: assignEach es X.env).findIdx? (·.1) = none
    rw [List.findIdx?_cons, f]
    rfl
theorem tg_sound {c : Cfg} {X : Cx} (C : Ctx c X) {tg : Tg} {e : Expr} (h : tgIs c tg e = true) : PG X e (tgR X.K tg) ∧ ∀ i ∈ tg.slots, i ∉ c.muts ∧ i ∉ c.dsl := by
  unfold tgIs at h
  rw [Bool.and_eq_true] at h
  refine ⟨?_, fun i hi => by
    have := List.all_eq_true.mp h.1 i hi
    simpa using this⟩
  have h2 := h.2
  split at h2
  · exact (nmIs_ok C h2).1
  · obtain ⟨q, l, f⟩ := nms_ok C h2
    exact pg_seq (pg_tup C.calm q l f) (pg_unl C.calm q l f)
  · cases h2
theorem tg_sim {K : PySem.W.Frag} {pn : List (Nat × V)} {tg : Tg} (hp : ∀ p ∈ pn, p.1 ∉ tg.slots) : SimG K pn tg (tgR K tg) := by
  cases tg with
  | nm i => exact simG_nm fun p hp' z => hp p hp' (by simp [Tg.slots, z])
  | tp is => exact simG_tp hp
theorem tgOwn_map (c : Cfg) (tg : Tg) : (tgOwn c tg).map (·.2) = tg.slots := by
  unfold tgOwn
  rw [List.map_map]
  exact List.map_id _
theorem isComp_ok {e elt tg iter : Expr} {ifs : List Expr} {scope : Scope} (h : isComp e = some (elt, tg, iter, ifs, scope)) : ∃ pos, e = .ListComp elt [⟨tg, iter, ifs, 0⟩] scope pos := by
  unfold isComp at h
  split at h
  · cases h
    exact ⟨_, rfl⟩
  · cases h
/-- what a comprehension's block needs; its reading -/
theorem comp_parts {k : IK} {as cs : List IE} {tg : Tg} {e' : IE} (iA : GoodA cl as) (iT : GoodTs cl cs) (iE : GoodE cl e') {tm : Bool} {c : Cfg} {X : Cx} {e : Expr} {O O' : List Nat} {b : Bool} {pn : List (Nat × V)} (C : Ctx c X) (CC : CallsOk c X cl)
    (hp : PnOk c pn) (h : chk c tm (.comp k as tg cs e') e O = some (O', b)) :
    ∃ elt target iter ifs scope pos own wi g tt te, e = .ListComp elt [⟨target, iter, ifs, 0⟩] scope pos ∧ PI X target iter wi ∧ BlkOk X.N X.env.scope scope own ∧
      (∀ (s : Shared) (H : Hp) (C : Addr) (cl : List (Str × Addr)) (fp : List Addr), PG (X.blk s H scope (compEnvC scope cl C X.env) fp) target g) ∧
      (∀ (s : Shared) (H : Hp) (C : Addr) (cl : List (Str × Addr)) (fp : List Addr), PTs (X.blk s H scope (compEnvC scope cl C X.env) fp) ifs tt) ∧
      (∀ (s : Shared) (H : Hp) (C : Addr) (cl : List (Str × Addr)) (fp : List Addr), PE (X.blk s H scope (compEnvC scope cl C X.env) fp) elt te) ∧ notSet iter = true ∧ b = true ∧ okT tm e false = true ∧
      Sim X.K pn O O' true (tLc wi g tt te (own.map (·.2))) (ev cl false (.comp k as tg cs e')) := by
  unfold chk at h
  split at h
  · rename_i elt target iter ifs scope hcomp
    obtain ⟨pos, rfl⟩ := isComp_ok hcomp
    split at h
    · rename_i es hes
      split at h
      · rename_i O1 hA
        split at h
        · rename_i hc
          simp only [Bool.and_eq_true] at hc
          obtain ⟨⟨⟨⟨⟨hn, hitg⟩, hset⟩, hblk⟩, htg⟩, hok⟩ := hc
          split at h
          · rename_i O2 h2
            split at h
            · rename_i O3 b3 h3
              split at h
              · rename_i O4 h4
                split at h
                · rename_i O5 b5 h5
                  split at h
                  · cases h
                    rename_i hs
                    rw [Bool.and_eq_true] at hs
                    obtain ⟨l, _, _, ts, q1, q2⟩ := iA c X es O O1 pn C CC hp hA
                    obtain ⟨w, pi, nat⟩ := iter_sound (tg := target) C hes hitg q1
                    rw [← l] at nat
                    have tg1 := fun s H A cs fp => tg_sound (C.blk scope s H A cs fp) htg
                    have tgm : ∀ i ∈ tg.slots, i ∉ c.muts ∧ i ∉ c.dsl := (tg_sound (C := C.blk scope (X.s_0) X.H_0 0 [] []) htg).2
                    have hpt : ∀ p ∈ pn, p.1 ∉ tg.slots := fun p hp' z => (hp.prot p hp').elim (tgm _ z).1 (tgm _ z).2
                    refine ⟨elt, target, iter, ifs, scope, pos, tgOwn c tg, _, tgR X.K tg, tTsCan X.K pn _ _ (evTs cl cs), tCan X.K pn O4 O5 b5 (ev cl false e'), rfl, pi, ?_, fun s H A cs fp => (tg1 s H A cs fp).1, fun s H A cs fp => iT _ _ _ _ _ pn (C.blk scope s H A cs fp) (CC.blk scope s H A cs fp) (hp.blk scope) h4,
                      fun s H A cs fp => (iE false _ _ _ _ _ _ pn (C.blk scope s H A cs fp) (CC.blk scope s H A cs fp) (hp.blk scope) h5).1 rfl, hset, rfl, hok, ?_⟩
                    · rw [C.N, C.sc]
                      exact blkOk_by hblk
                    · rw [tgOwn_map]
                      exact sim_comp rfl q2 hn nat (tg_sim hpt) simTs_can sim_can (fun i hi => (mem_remL.mp (interS_ok.mp hi).1).1) (subS_ok hs.1) (subS_ok hs.2) (fun i hi => (mem_remL.mp (interS_ok.mp hi).1).2) hpt
                  · cases h
                · cases h
              · cases h
            · cases h
          · cases h
        · cases h
      · cases h
    · cases h
  · cases h
theorem good_comp {k : IK} {as cs : List IE} {tg : Tg} {e' : IE} (iA : GoodA cl as) (iT : GoodTs cl cs) (iE : GoodE cl e') : GoodE cl (.comp k as tg cs e') := by
  intro tm c X e O O' b pn C CC hp h
  obtain ⟨elt, target, iter, ifs, scope, pos, own, wi, g, tt, te, rfl, h1, h2, h3, h4, h5, h6, rfl, h7, h8⟩ := comp_parts iA iT iE C CC hp h
  exact atom_ok rfl (pe_lc C.calm (by rw [C.N]; exact C.nd) h1 h2 h3 h4 h5 fun x => folded_no h6 _ _) h8 h7 fun _ z => nomatch z

mutual
theorem good : ∀ ie : IE, GoodE cl ie
  | .c d => good_c d
  | .v i => good_v i
  | .o i => good_o i
  | .mv i => good_mv i
  | .p op as => good_p (goodA as)
  | .call f as outs => good_call (goodA as)
  | .disp t as => good_disp (goodA as)
  | .callD f as t => good_callD (goodA as)
  | .rg t as => good_rg (goodA as)
  | .cut x lo hi => good_cut (goodA x) (goodP lo) (goodP hi)
  | .and a b => good_and (good a) (good b)
  | .or a b => good_or (good a) (good b)
  | .not a => good_not (good a)
  | .ifx t a b => good_ifx (good t) (good a) (good b)
  | .chain o1 o2 a b d => good_chain (good a) (good b) (good d)
  | .chain3 o1 o2 o3 a b d f => good_chain3 (good a) (good b) (good d) (good f)
  | .comp k as tg cs e => good_comp (goodA as) (goodTs cs) (good e)
  | .pop i as => good_pop (goodA as)
  | .rep t x k => good_rep (good x) (good k)
  | .mth op x y => good_mth (good x) (good y)
  | .od i => good_od i
  | .dget i k => good_dget (good k)
  | .din neg k i => good_din (good k)
  termination_by structural ie => ie
theorem goodA : ∀ as : List IE, GoodA cl as
  | [] => goodA_nil
  | a :: as => goodA_cons (good a) (goodA as)
  termination_by structural as => as
theorem goodP : ∀ as : List IE, GoodP cl as
  | [] => goodP_nil
  | a :: as => goodP_cons (good a)
  termination_by structural as => as
theorem goodTs : ∀ as : List IE, GoodTs cl as
  | [] => goodTs_nil
  | a :: as => goodTs_cons (good a)
  termination_by structural as => as
end
end
end Mir
/-! Mir, part S: statements simulated. -/
namespace Mir
open PySem PySem.Spec L2
section
variable {K : PySem.W.Frag} {pn : List (Nat × V)} {O O' O1 O2 O3 Os Om : List Nat} {Oo Op : Option (List Nat)} {cl : Cl} {fr : Bool} {N : Nat}

/-! ### assignments -/
theorem simS_set {tg : Tg} {e : IE} {te : TE} {g : TG} {b : Bool} (s : Sim K pn O O1 b te (ev cl false e)) (hg : SimG K pn tg g) : SimS K pn Om fr O (some (remL tg.slots O1)) (tAsg te g) (evS cl N (.set tg e)) := by
  refine ⟨fun z => (nomatch z), fun Φ G σ ε H fl E R e0 q1 q2 => ?_⟩
  obtain ⟨⟨d, ε1⟩, h1, e1⟩ := Res.bind_eq_ok.mp e0
  obtain ⟨ε2, h2, e2⟩ := Res.bind_eq_ok.mp e1
  cases e2
  refine s.shut Φ G σ ε ε1 H d _ R h1 fun Φ1 H1 v R1 s1 o => ?_
  exact hg O1 Φ1 G σ ε1 ε2 H1 v d _ R1 o.dp h2 fun σ' R2 _ _ => q1 ε2 _ rfl rfl Φ1 H1 σ' R2 s1
theorem Rel.setO {Φ G H : Hp} {σ : St} {ε : MEnv} (R : Rel K Φ G pn O σ ε H) {i : Nat} {v : V} {d : D} (hp : ∀ p ∈ pn, p.1 ≠ i) (h : Dp K Φ v d) (n : isLd d = false) : Rel K Φ G pn (i :: O) (σ.set i (some v)) (ε.set i (some d)) H := by
  have R1 := R.set (i := i) hp h
  have at_i : ∀ e, (ε.set i (some d))[i]? = some (some e) → e = d := fun e z => by
    rw [set_get, if_pos rfl] at z
    split at z
    · cases z
      rfl
    · cases z
  have nl : ¬ IsL (ε.set i (some d)) i := fun ⟨ds, z, m⟩ => by
    rw [at_i ds z, n] at m
    cases m
  refine ⟨R1.sub, R1.gsub, R1.gfree, R1.len, fun j e hj nd q => ?_, fun j e hj q => ?_, fun j k a hj hk ne lj lk => ?_, R1.pin, R1.tag⟩
  · rw [List.mem_cons, not_or] at hj
    exact R1.sh j e (fun z => hj.2 (mem_rem.mp z).1) nd q
  · by_cases hji : j = i
    · subst hji
      have ed := at_i e q
      subst ed
      obtain ⟨u, a1, a2⟩ := R1.sh j e (fun z => (mem_rem.mp z).2 rfl) (by cases e <;> first | rfl | cases n) q
      exact ⟨u, a1, ownV_plain a2 n⟩
    · exact R1.ow j e (mem_rem.mpr ⟨(List.mem_cons.mp hj).resolve_left hji, hji⟩) q
  · have hj' : j ≠ i := fun z => nl (z ▸ lj)
    have hk' : k ≠ i := fun z => nl (z ▸ lk)
    exact R1.inj j k a (mem_rem.mpr ⟨(List.mem_cons.mp hj).resolve_left hj', hj'⟩) (mem_rem.mpr ⟨(List.mem_cons.mp hk).resolve_left hk', hk'⟩) ne lj lk
theorem simS_setL {i : Nat} {e : IE} {te : TE} (hp : ∀ p ∈ pn, p.1 ≠ i) (s : Sim K pn O O1 true te (ev cl false e)) : SimS K pn Om fr O (some (i :: O1)) (tAsg te (gName i)) (evS cl N (.set (.nm i) e)) := by
  refine ⟨fun z => (nomatch z), fun Φ G σ ε H fl E R e0 q1 q2 => ?_⟩
  obtain ⟨⟨d, ε1⟩, h1, e1⟩ := Res.bind_eq_ok.mp e0
  obtain ⟨ε2, h2, e2⟩ := Res.bind_eq_ok.mp e1
  cases e2
  cases h2
  refine s Φ G σ ε ε1 H d _ R h1 fun Φ1 H1 v R1 s1 o => ?_
  refine q1 _ _ rfl rfl Φ1 H1 _ ?_ s1
  cases d with
  | list ds =>
    obtain ⟨p, ws, rfl, a1, a2, a3, a4, a5⟩ := o
    exact R1.setL hp a1 a2 a3 a4 a5
  | none => exact R1.setO hp o rfl
  | bool _ => exact R1.setO hp o rfl
  | int _ => exact R1.setO hp o rfl
  | str _ => exact R1.setO hp o rfl
  | tuple _ => exact R1.setO hp o rfl
  | dict _ => cases o
theorem simS_par {i j : Nat} {a b : IE} {ta tb : TE} {x y : Bool} (hi : ∀ p ∈ pn, p.1 ≠ i) (hj : ∀ p ∈ pn, p.1 ≠ j) (sa : Sim K pn O O1 x ta (ev cl false a)) (sb : Sim K pn O1 O2 y tb (ev cl false b)) :
    SimS K pn Om fr O (some (rem j (rem i O2))) (tPar i j (tL [ta, tb])) (evS cl N (.par i j a b)) := by
  refine ⟨fun z => (nomatch z), fun Φ G σ ε H fl E R e0 q1 q2 => ?_⟩
  obtain ⟨⟨d1, ε1⟩, h1, e1⟩ := Res.bind_eq_ok.mp e0
  obtain ⟨⟨d2, ε2⟩, h2, e2⟩ := Res.bind_eq_ok.mp e1
  cases e2
  refine sa.shut Φ G σ ε ε1 H d1 _ R h1 fun Φ1 H1 v R1 s1 o1 => ?_
  refine sb.shut Φ1 G σ ε1 ε2 H1 d2 _ R1 h2 fun Φ2 H2 u R2 s2 o2 => ?_
  refine ⟨v, u, rfl, q1 _ _ rfl rfl Φ2 H2 _ ?_ (s1.trans s2)⟩
  exact (R2.set hi (o1.up s2)).set hj o2.dp
theorem listOf_ok {d : D} {xs : List D} (h : listOf d = .ok xs) : d = .list xs := by
  cases d <;> cases h
  rfl
theorem simS_sub {i : Nat} {k e : IE} {te tk : TE} {x y : Bool} (hn : (i, dTag) ∉ pn) (se : Sim K pn O O1 x te (ev cl false e)) (sk : Sim K pn O1 O2 y tk (ev cl false k)) (hi : i ∈ O2) :
    SimS K pn Om fr O (some O2) (tAsg te (gSub (tVar i) tk rSetL)) (evS cl N (.sub i k e)) := by
  refine ⟨fun z => (nomatch z), fun Φ G σ ε H fl E R e0 q1 q2 => ?_⟩
  obtain ⟨⟨d, ε1⟩, h1, e1⟩ := Res.bind_eq_ok.mp e0
  obtain ⟨y0, h2, e2⟩ := Res.bind_eq_ok.mp e1
  obtain ⟨⟨dk, ε2⟩, h3, e3⟩ := Res.bind_eq_ok.mp e2
  obtain ⟨n, h4, e4⟩ := Res.bind_eq_ok.mp e3
  obtain ⟨z, h5, e5⟩ := Res.bind_eq_ok.mp e4
  obtain ⟨xs, h6, e6⟩ := Res.bind_eq_ok.mp e5
  obtain ⟨j, h7, e7⟩ := Res.bind_eq_ok.mp e6
  cases e7
  refine se.shut Φ G σ ε ε1 H d _ R h1 fun Φ1 H1 v R1 s1 o1 => ?_
  obtain ⟨v0, sv, _⟩ := R1.get (look_ok h2) hn
  refine ⟨v0, sv, ?_⟩
  refine sk.shut Φ1 G σ ε1 ε2 H1 dk _ R1 h3 fun Φ2 H2 u R2 s2 o2 => ?_
  have hz := listOf_ok h6
  subst hz
  have hl := look_ok h5
  obtain ⟨v1, sv1, a, rfl, fa, ga, vs, ha, hd⟩ := R2.ow i _ hi hl
  rw [sv] at sv1
  cases sv1
  have ed : dk = .int n := by
    cases dk <;> cases h4
    rfl
  subst ed
  cases o2.dp
  have hj : ixN vs.length n = some j := by
    rw [dpA_len hd, ← ixOf_eq]
    cases hh : ixOf xs.length n with
    | none => rw [hh] at h7; cases h7
    | some j' => rw [hh] at h7; cases h7; rfl
  refine ⟨a, vs, n, j, rfl, rfl, ha, hj, q1 _ _ rfl rfl Φ2 _ σ ?_ (s1.trans s2)⟩
  exact R2.put hi hl sv (dpA_set (o1.up s2) j hd)
theorem simS_app {i : Nat} {e : IE} {te : TE} {x : Bool} (se : Sim K pn O O1 x te (ev cl false e)) (hi0 : i ∈ O) (hi : i ∈ O1) : SimS K pn Om fr O (some O1) (tDrop (tBM K "list" rAppend (tVar i) (tL [te]))) (evS cl N (.app i e)) := by
  refine ⟨fun z => (nomatch z), fun Φ G σ ε H fl E R e0 q1 q2 => ?_⟩
  obtain ⟨y0, h1, e1⟩ := Res.bind_eq_ok.mp e0
  obtain ⟨xs0, h2, e2⟩ := Res.bind_eq_ok.mp e1
  obtain ⟨⟨d, ε1⟩, h3, e3⟩ := Res.bind_eq_ok.mp e2
  obtain ⟨z, h4, e4⟩ := Res.bind_eq_ok.mp e3
  obtain ⟨xs, h5, e5⟩ := Res.bind_eq_ok.mp e4
  obtain ⟨hz, e6⟩ := guard_bind e5
  cases e6
  have hy := listOf_ok h2
  subst hy
  obtain ⟨v0, sv, a0, rfl, _, _, vs0, ha0, _⟩ := R.ow i _ hi0 (look_ok h1)
  refine ⟨.ref a0, sv, .inl ⟨rfl, _, .inl (.inl ha0)⟩, ?_⟩
  refine se.shut Φ G σ ε ε1 H d _ R h3 fun Φ1 H1 v R1 s1 o1 => ?_
  have hz2 := listOf_ok h5
  subst hz2
  have hl := look_ok h4
  obtain ⟨v1, sv1, a, rfl, fa, ga, vs, ha, hd⟩ := R1.ow i _ hi hl
  rw [sv] at sv1
  cases sv1
  refine ⟨a0, vs, v, rfl, rfl, ha, by rw [dpA_len hd]; exact of_decide_eq_true hz, q1 _ _ rfl rfl Φ1 _ σ ?_ s1⟩
  exact R1.put hi hl sv (dpA_app hd (.cons o1.dp .nil))
theorem simS_ext {i : Nat} {e : IE} {te : TE} (se : Sim K pn O O1 true te (ev cl false e)) (hi0 : i ∈ O) (hi : i ∈ O1) : SimS K pn Om fr O (some O1) (tDrop (tBM K "list" rExtend (tVar i) (tL [te]))) (evS cl N (.ext i e)) := by
  refine ⟨fun z => (nomatch z), fun Φ G σ ε H fl E R e0 q1 q2 => ?_⟩
  obtain ⟨y0, h1, e1⟩ := Res.bind_eq_ok.mp e0
  obtain ⟨xs0, h2, e2⟩ := Res.bind_eq_ok.mp e1
  obtain ⟨⟨d, ε1⟩, h3, e3⟩ := Res.bind_eq_ok.mp e2
  obtain ⟨ys, h4', e4'⟩ := Res.bind_eq_ok.mp e3
  obtain ⟨z, h4, e4⟩ := Res.bind_eq_ok.mp e4'
  obtain ⟨xs, h5, e5⟩ := Res.bind_eq_ok.mp e4
  obtain ⟨hz, e6⟩ := guard_bind e5
  cases e6
  have hy := listOf_ok h2
  subst hy
  have hd0 := listOf_ok h4'
  subst hd0
  obtain ⟨v0, sv, a0, rfl, _, _, vs0, ha0, _⟩ := R.ow i _ hi0 (look_ok h1)
  refine ⟨.ref a0, sv, .inl ⟨rfl, _, .inl (.inl ha0)⟩, ?_⟩
  refine se Φ G σ ε ε1 H _ _ R h3 fun Φ1 H1 v R1 s1 o1 => ?_
  obtain ⟨p, ws, rfl, hp, fp, gp, lp, hw⟩ := o1
  have hz2 := listOf_ok h5
  subst hz2
  have hl := look_ok h4
  obtain ⟨v1, sv1, a, rfl, fa, ga, vs, ha, hd⟩ := R1.ow i _ hi hl
  rw [sv] at sv1
  cases sv1
  refine ⟨a0, p, vs, ws, rfl, rfl, ha, hp, by rw [dpA_len hd, dpA_len hw]; exact fit_le hz, q1 _ _ rfl rfl Φ1 _ σ ?_ s1⟩
  exact R1.put hi hl sv (dpA_app hd hw)
theorem simS_ex {e : IE} {te : TE} {x : Bool} (se : Sim K pn O O1 x te (ev cl false e)) : SimS K pn Om fr O (some O1) (tDrop te) (evS cl N (.ex e)) := by
  refine ⟨fun z => (nomatch z), fun Φ G σ ε H fl E R e0 q1 q2 => ?_⟩
  obtain ⟨⟨d, ε1⟩, h1, e1⟩ := Res.bind_eq_ok.mp e0
  cases e1
  exact se.shut Φ G σ ε ε1 H d _ R h1 fun Φ1 H1 v R1 s1 o => q1 _ _ rfl rfl Φ1 H1 σ R1 s1
theorem simS_pass : SimS K pn Om fr O (some O) tNext (evS cl N .pass) := by
  refine ⟨fun z => (nomatch z), fun Φ G σ ε H fl E R e0 q1 q2 => ?_⟩
  cases e0
  exact q1 _ _ rfl rfl Φ H σ R (Same.refl _)
/-! ### dicts -/
theorem simS_dnew {i : Nat} {t : Bool} (hp : ∀ p ∈ pn, p.1 = i → p.2 = dTag) (ht : (i, dTag) ∈ pn) : SimS K pn Om fr O (some (i :: O)) (tAsg (if t = true then tGNewT else tDNewK) (gName i)) (evS cl N (.dnew i t)) := by
  refine ⟨fun z => (nomatch z), fun Φ G σ ε H fl E R e0 q1 q2 => ?_⟩
  cases e0
  have fin : ∀ (p : Addr) (o : HO) (d : D), H p = none → Held K Φ (upd H p o) p d → Rel K Φ G pn (i :: O) (σ.set i (some (.ref p))) (ε.set i (some d)) (upd H p o) := fun p o d np hh =>
    (R.heap (same_new (o := o) np)).setH hp hh (same_none R.sub np) (same_none R.gsub np) (R.lone_new np) fun _ => ht
  cases t with
  | false => exact fun p np => q1 _ _ rfl rfl Φ _ _ (fin p _ _ np ⟨_, upd_same, [], rfl, .nil⟩) (Same.refl _)
  | true => exact fun p np => q1 _ _ rfl rfl Φ _ _ (fin p _ _ np ⟨_, upd_same, [], rfl, .nil⟩) (Same.refl _)
theorem dks_put {Φ : Hp} {xs : List (Key × V)} {kvs : List (D × D)} (h : DKs K Φ xs kvs) (k : Key) {v : V} {d : D} (hv : Dp K Φ v d) : DKs K Φ (putK xs k v) (dPut kvs (keyD k) d) := by
  have e : (xs.any fun kv => decide (kv.1 = k)) = (kvs.any fun p => PyData.eqv p.1 (keyD k)) := by
    induction h with
    | nil => rfl
    | cons h t ih => rw [List.any_cons, List.any_cons, ih, eqv_key]
  unfold putK dPut
  rw [e]
  split
  · rename_i c0
    clear e c0
    induction h with
    | nil => exact .nil
    | @cons k' v' d' xs kvs h t ih =>
      rw [List.map_cons, List.map_cons]
      dsimp only
      rw [eqv_key]
      by_cases c : k' = k
      · rw [if_pos c, decide_eq_true c, if_pos rfl]
        exact .cons hv ih
      · rw [if_neg c, decide_eq_false c, if_neg (by decide)]
        exact .cons h ih
  · rename_i c0
    clear e c0
    induction h with
    | nil => exact .cons hv .nil
    | cons h t ih => exact .cons h ih
theorem dts_put {Φ : Hp} {xs : TE3} {kvs : List (D × D)} (h : DTs K Φ xs kvs) (k : NestedKey) {b : Addr} {v : V} {d : D} (hb : Dp K Φ (.ref b) k.data) (hv : Dp K Φ v d) : DTs K Φ (putT xs k b v) (dPut kvs k.data d) := by
  have e : (xs.any fun kv => decide (kv.1 = k)) = (kvs.any fun p => PyData.eqv p.1 k.data) := by
    induction h with
    | nil => rfl
    | cons h0 h t ih => rw [List.any_cons, List.any_cons, ih, eqv_nk]
  unfold putT dPut
  rw [e]
  split
  · rename_i c0
    clear e c0
    induction h with
    | nil => exact .nil
    | @cons k' q' v' d' xs kvs h0 h t ih =>
      rw [List.map_cons, List.map_cons]
      dsimp only
      rw [eqv_nk]
      by_cases c : k' = k
      · rw [if_pos c, decide_eq_true c, if_pos rfl]
        exact .cons h0 hv ih
      · rw [if_neg c, decide_eq_false c, if_neg (by decide)]
        exact .cons h0 h ih
  · rename_i c0
    clear e c0
    induction h with
    | nil => exact .cons hb hv .nil
    | cons h0 h t ih => exact .cons h0 h ih
theorem simS_dput {i : Nat} {k e : IE} {te tk : TE} {x y : Bool} (se : Sim K pn O O1 x te (ev cl false e)) (sk : Sim K pn O1 O2 y tk (ev cl false k)) (hi0 : i ∈ O1) (hi : i ∈ O2) :
    SimS K pn Om fr O (some O2) (sGPut K (tVar i) tk te) (evS cl N (.dput i k e)) := by
  refine ⟨fun z => (nomatch z), fun Φ G σ ε H fl E R e0 q1 q2 => ?_⟩
  obtain ⟨⟨d, ε1⟩, h1, e1⟩ := Res.bind_eq_ok.mp e0
  obtain ⟨y0, h2, e2⟩ := Res.bind_eq_ok.mp e1
  obtain ⟨⟨dk, ε2⟩, h3, e3⟩ := Res.bind_eq_ok.mp e2
  obtain ⟨z, h4, e4⟩ := Res.bind_eq_ok.mp e3
  obtain ⟨⟨t, kvs⟩, h5, e5⟩ := Res.bind_eq_ok.mp e4
  obtain ⟨ok, e6⟩ := guard_bind e5
  cases e6
  rw [Bool.and_eq_true, decide_eq_true_iff] at ok
  refine se.shut Φ G σ ε ε1 H d _ R h1 fun Φ1 H1 v R1 s1 o1 => ?_
  obtain ⟨v0, sv, _⟩ := R1.ow i _ hi0 (look_ok h2)
  refine ⟨v0, sv, ?_⟩
  refine sk.shut Φ1 G σ ε1 ε2 H1 dk _ R1 h3 fun Φ2 H2 u R2 s2 o2 => ?_
  obtain ⟨xh, rfl⟩ := dictOf_ok h5
  have hl := look_ok h4
  obtain ⟨v1, sv1, ow⟩ := R2.ow i _ hi hl
  obtain ⟨a, rfl, fa, ga, o, ho, hd⟩ := ow.own rfl
  rw [sv] at sv1
  cases sv1
  have hu := o2.dp
  have hv := o1.up s2
  cases t with
  | false =>
    obtain ⟨xs, rfl, hk⟩ := hd
    obtain ⟨k, rfl⟩ := keyOk_k ok.1
    cases dp_key hu
    refine ⟨a, _, rfl, .inl (DPut.k ho (by rw [dks_len hk]; exact ok.2)), q1 _ _ rfl rfl Φ2 _ σ ?_ (s1.trans s2)⟩
    exact R2.putH hi hl rfl sv ⟨_, upd_same, _, rfl, dks_put hk k hv⟩ fun _ => rfl
  | true =>
    obtain ⟨xs, rfl, hk⟩ := hd
    obtain ⟨ds, k, e0, rfl, kk⟩ := keyOk_t ok.1
    have hu0 := hu
    rw [e0] at hu
    cases hu with
    | tup hs ha =>
      refine ⟨a, _, rfl, .inr ⟨xs, k, _, ho, dts_keys R2.sub hk, rfl, kk, dp_up R2.sub hu0, by rw [dts_len hk]; exact ok.2, rfl⟩, q1 _ _ rfl rfl Φ2 _ σ ?_ (s1.trans s2)⟩
      exact R2.putH hi hl rfl sv ⟨_, upd_same, _, rfl, dts_put hk k hu0 hv⟩ fun _ => rfl
/-- what dict(pairs) asks -/
def rDictP (K : PySem.W.Frag) : List V → Hp → VK → Prop := fun xs H Q => ∃ (a : Addr) (ps : List Addr) (kvs : List (Key × V)), xs = [.ref a] ∧ SqL K H a (ps.map V.ref) ∧ Paired (fun p kv => SqT K H p [kV kv.1, kv.2]) ps kvs ∧
    ∀ p, H p = none → Q (.ref p) (upd H p (.dK (mergeK [] kvs)))
theorem pairs_get {Φ : Hp} : ∀ {xs : List D} {ps : List (D × D)} {vs : List V}, pairsOf false xs = .ok ps → DpAll K Φ vs xs → ∃ (as : List Addr) (kvs : List (Key × V)), vs = as.map V.ref ∧ Paired (fun p kv => SqT K Φ p [kV kv.1, kv.2]) as kvs ∧ DKs K Φ kvs ps
  | [], ps, vs, e, h => by
    cases e
    cases h
    exact ⟨[], [], rfl, .nil, .nil⟩
  | x :: xs, ps, vs, e, h => by
    unfold pairsOf at e
    split at e
    · rename_i hx
      cases hx
    · rename_i k v r hx
      cases hx
      obtain ⟨ok, e1⟩ := guard_bind e
      obtain ⟨l, h1, e2⟩ := Res.bind_eq_ok.mp e1
      cases e2
      cases h with
      | cons h0 hr =>
        obtain ⟨as, kvs, rfl, q1, q2⟩ := pairs_get h1 hr
        cases h0 with
        | tup hs ha =>
          cases ha with
          | cons a1 a2 =>
            cases a2 with
            | cons a2 a3 =>
              cases a3
              obtain ⟨k, rfl⟩ := keyOk_k ok
              cases dp_key a1
              exact ⟨_ :: as, (k, _) :: kvs, rfl, .cons hs q1, .cons a2 q2⟩
    · cases e
theorem dks_merge {Φ : Hp} {more : List (Key × V)} {ps : List (D × D)} (h : DKs K Φ more ps) : ∀ {xs : List (Key × V)} {kvs : List (D × D)}, DKs K Φ xs kvs → DKs K Φ (mergeK xs more) (dPuts kvs ps) := by
  induction h with
  | nil => exact fun q => q
  | cons h t ih => exact fun q => ih (dks_put q _ h)
theorem paired_up {Φ H : Hp} (s : Same Φ H) {as : List Addr} {kvs : List (Key × V)} (h : Paired (fun p kv => SqT K Φ p [kV kv.1, kv.2]) as kvs) : Paired (fun p kv => SqT K H p [kV kv.1, kv.2]) as kvs := Paired.mapP h fun _ _ z => sqT_up s z
theorem simS_dof {i : Nat} {e : IE} {te : TE} {b : Bool} (hp : ∀ p ∈ pn, p.1 = i → p.2 = dTag) (ht : (i, dTag) ∈ pn) (se : Sim K pn O O1 b te (ev cl false e)) :
    SimS K pn Om fr O (some (i :: O1)) (tAsg (tV (rDictP K) [te]) (gName i)) (evS cl N (.dof i false e)) := by
  refine ⟨fun z => (nomatch z), fun Φ G σ ε H fl E R e0 q1 q2 => ?_⟩
  obtain ⟨⟨d, ε1⟩, h1, e1⟩ := Res.bind_eq_ok.mp e0
  obtain ⟨xs, h2, e2⟩ := Res.bind_eq_ok.mp e1
  obtain ⟨ps, h3, e3⟩ := Res.bind_eq_ok.mp e2
  cases e3
  refine se.shut Φ G σ ε ε1 H d _ R h1 fun Φ1 H1 v R1 s1 o1 => ?_
  have hd := listOf_ok h2
  subst hd
  have hv := o1.dp
  cases hv with
  | lst hs ha =>
    obtain ⟨as, kvs, rfl, q3, q4⟩ := pairs_get h3 ha
    refine ⟨_, as, kvs, rfl, sqL_up R1.sub hs, paired_up R1.sub q3, fun p np => q1 _ _ rfl rfl Φ1 _ _ ?_ s1⟩
    exact (R1.heap (same_new np)).setH hp ⟨_, upd_same, _, rfl, dks_merge q4 .nil⟩ (same_none R1.sub np) (same_none R1.gsub np) (R1.lone_new np) fun _ => ht
theorem simS_never : SimS K pn Om fr O none tNever (evS cl N .never) := ⟨fun _ ε ε' z => (nomatch z), fun Φ G σ ε H fl E R e0 q1 q2 => (nomatch e0)⟩
/-- a list that nobody owns is another's -/
theorem Rel.intoG {Φ G H : Hp} {σ : St} {ε : MEnv} (R : Rel K Φ G pn O σ ε H) {p : Addr} {o : HO} (hp : H p = some o) (fp : Φ p = none) (l : Lone O σ ε p) : Rel K Φ (upd G p o) pn O σ ε H := by
  refine ⟨R.sub, fun a x h => ?_, fun a ha => ?_, R.len, R.sh, fun i d hi e => ?_, R.inj, R.pin, R.tag⟩
  · by_cases z : a = p
    · subst z
      rw [upd_same] at h
      rw [← h]
      exact hp
    · rw [upd_ne z] at h
      exact R.gsub a x h
  · by_cases z : a = p
    · subst z
      exact fp
    · rw [upd_ne z] at ha
      exact R.gfree a ha
  · obtain ⟨v, h1, h2⟩ := R.ow i d hi e
    refine ⟨v, h1, h2.move (Same.refl _) fun a ea la fa ga hh => ⟨fa, ?_, fun _ z => z⟩⟩
    rw [upd_ne]
    · exact ga
    · intro z
      subst z
      subst ea
      exact l i hi ⟨d, e, la⟩ h1
/-- fewer slots are owned; what came of an expression stays -/
theorem out_weak {Φ G H : Hp} {σ : St} {ε : MEnv} {b : Bool} {v : V} {d : D} (R : Rel K Φ G pn O σ ε H) (o : Out K Φ G O σ ε H b v d) (w : ∀ i ∈ O', i ∈ O) : ∃ Ψ, Same Φ Ψ ∧ Rel K Ψ G pn O' σ ε H ∧ Out K Ψ G O' σ ε H b v d := by
  have plain : Dp K Φ v d → (∀ ds, b = true → d ≠ .list ds) → ∃ Ψ, Same Φ Ψ ∧ Rel K Ψ G pn O' σ ε H ∧ Out K Ψ G O' σ ε H b v d := fun h n => by
    obtain ⟨Ψ, s, R1⟩ := R.weak w
    refine ⟨Ψ, s, R1, ?_⟩
    cases b with
    | false => exact .of (dp_up s h)
    | true => exact Out.scalar (dp_up s h) fun ds => n ds rfl
  cases b with
  | false => exact plain o.dp fun _ z => nomatch z
  | true =>
    cases d with
    | list ds =>
      obtain ⟨p, ws, rfl, hp, fp, gp, lp, hd⟩ := o
      obtain ⟨Ψ, s, R1⟩ := (R.intoG hp fp lp).weak w
      obtain ⟨R2, a1, a2, a3⟩ := R1.subG gp
      exact ⟨Ψ, s, R2, p, ws, rfl, hp, a2, gp, a3, dpA_up s hd⟩
    | none => exact plain o fun _ _ z => nomatch z
    | bool _ => exact plain o fun _ _ z => nomatch z
    | int _ => exact plain o fun _ _ z => nomatch z
    | str _ => exact plain o fun _ _ z => nomatch z
    | tuple _ => exact plain o fun _ _ z => nomatch z
    | dict _ => exact plain o fun _ _ z => nomatch z
theorem simS_ret {e : IE} {te : TE} (se : Sim K pn O O1 fr te (ev cl false e)) (w : ∀ i ∈ Om, i ∈ O1) : SimS K pn Om fr O none (tRet te) (evS cl N (.ret e)) := by
  refine ⟨fun _ ε ε' z => ?_, fun Φ G σ ε H fl E R e0 q1 q2 => ?_⟩
  · obtain ⟨⟨d, ε1⟩, h1, e1⟩ := Res.bind_eq_ok.mp z
    cases e1
  · obtain ⟨⟨d, ε1⟩, h1, e1⟩ := Res.bind_eq_ok.mp e0
    cases e1
    refine se Φ G σ ε ε1 H d _ R h1 fun Φ1 H1 v R1 s1 o => ?_
    obtain ⟨Ψ, s2, R2, o2⟩ := out_weak R1 o w
    exact q2 d ε1 rfl Ψ H1 σ v R2 (s1.trans s2) o2

/-! ### blocks and ways -/
theorem SimS.weakN {t : TS} {m : MEnv → Res Flow} (h : SimS K pn Om fr O (some O1) t m) (w : ∀ i ∈ O', i ∈ O1) : SimS K pn Om fr O (some O') t m := by
  refine ⟨fun z => (nomatch z), fun Φ G σ ε H fl E R e0 q1 q2 => ?_⟩
  refine h.2 Φ G σ ε H fl E R e0 (fun ε' O2 ef eo Φ' H' σ' R' s => ?_) q2
  cases eo
  obtain ⟨Ψ, s2, R2⟩ := R'.weak w
  exact q1 ε' O' ef rfl Ψ H' σ' R2 (s.trans s2)
theorem SimS.weakD {t : TS} {m : MEnv → Res Flow} (h : SimS K pn Om fr O none t m) : SimS K pn Om fr O (some O') t m := by
  refine ⟨fun z => (nomatch z), fun Φ G σ ε H fl E R e0 q1 q2 => ?_⟩
  refine h.2 Φ G σ ε H fl E R e0 (fun ε' O2 ef eo => by cases eo) q2
theorem simB_nil : SimS K pn Om fr O (some O) tNext (evB cl N []) := by
  refine ⟨fun z => (nomatch z), fun Φ G σ ε H fl E R e0 q1 q2 => ?_⟩
  cases e0
  exact q1 _ _ rfl rfl Φ H σ R (Same.refl _)
theorem evB_cons (s : IS) (r : List IS) (ε : MEnv) : evB cl N (s :: r) ε = (evS cl N s ε >>= fun fl => match fl with | .nx ε1 => evB cl N r ε1 | .rt d ε1 => pure (.rt d ε1)) := rfl
theorem simB_cons {s : IS} {r : List IS} {ts tr : TS} (hs : SimS K pn Om fr O (some O1) ts (evS cl N s)) (hr : SimS K pn Om fr O1 Oo tr (evB cl N r)) : SimS K pn Om fr O Oo (tSeq ts tr) (evB cl N (s :: r)) := by
  refine ⟨fun z ε ε' e0 => ?_, fun Φ G σ ε H fl E R e0 q1 q2 => ?_⟩
  · rw [evB_cons] at e0
    obtain ⟨f1, h1, e1⟩ := Res.bind_eq_ok.mp e0
    cases f1 with
    | nx ε1 => exact hr.1 z ε1 ε' e1
    | rt d ε1 => cases e1
  · rw [evB_cons] at e0
    obtain ⟨f1, h1, e1⟩ := Res.bind_eq_ok.mp e0
    refine hs.2 Φ G σ ε H f1 _ R h1 (fun ε1 O2 ef eo Φ1 H1 σ1 R1 s1 => ?_) fun d ε1 ef Φ1 H1 σ1 v R1 s1 o => ?_
    · cases eo
      subst ef
      exact hr.2 Φ1 G σ1 ε1 H1 fl E R1 e1 (fun ε2 O3 ef eo Φ2 H2 σ2 R2 s2 => q1 ε2 O3 ef eo Φ2 H2 σ2 R2 (s1.trans s2)) fun d ε2 ef Φ2 H2 σ2 v R2 s2 o => q2 d ε2 ef Φ2 H2 σ2 v R2 (s1.trans s2) o
    · subst ef
      cases e1
      exact q2 d ε1 rfl Φ1 H1 σ1 v R1 s1 o
/-- behind a statement that does not go on -/
theorem simB_dead {s : IS} {r : List IS} {ts tr : TS} (hs : SimS K pn Om fr O none ts (evS cl N s)) : SimS K pn Om fr O none (tSeq ts tr) (evB cl N (s :: r)) := by
  have no : ∀ ε f1, evS cl N s ε = .ok f1 → ∃ d ε1, f1 = .rt d ε1 := fun ε f1 h1 => by
    cases f1 with
    | nx ε1 => exact absurd h1 (hs.1 rfl ε ε1)
    | rt d ε1 => exact ⟨d, ε1, rfl⟩
  refine ⟨fun z ε ε' e0 => ?_, fun Φ G σ ε H fl E R e0 q1 q2 => ?_⟩
  · rw [evB_cons] at e0
    obtain ⟨f1, h1, e1⟩ := Res.bind_eq_ok.mp e0
    obtain ⟨d, ε1, rfl⟩ := no _ _ h1
    cases e1
  · rw [evB_cons] at e0
    obtain ⟨f1, h1, e1⟩ := Res.bind_eq_ok.mp e0
    obtain ⟨d, ε1, rfl⟩ := no _ _ h1
    cases e1
    exact hs.2 Φ G σ ε H _ _ R h1 (fun _ _ _ eo => by cases eo) q2
theorem simS_ite {c : IE} {a b : List IS} {tc : TT} {ta tb : TS} (hc : SimT K pn O O1 tc (ev cl true c)) (ha : SimS K pn Om fr O1 Oo ta (evB cl N a)) (hb : SimS K pn Om fr O1 Oo tb (evB cl N b)) : SimS K pn Om fr O Oo (tIfS tc ta tb) (evS cl N (.ite c a b)) := by
  refine ⟨fun z ε ε' e0 => ?_, fun Φ G σ ε H fl E R e0 q1 q2 => ?_⟩
  · obtain ⟨⟨x, ε1⟩, h1, e1⟩ := Res.bind_eq_ok.mp e0
    obtain ⟨k, h2, e2⟩ := Res.bind_eq_ok.mp e1
    cases k with
    | true => exact ha.1 z ε1 ε' e2
    | false => exact hb.1 z ε1 ε' e2
  · obtain ⟨⟨x, ε1⟩, h1, e1⟩ := Res.bind_eq_ok.mp e0
    obtain ⟨k, h2, e2⟩ := Res.bind_eq_ok.mp e1
    have hk := boolOf_ok h2
    clear e0 e1 h2
    subst hk
    refine hc Φ G σ ε ε1 H _ _ R h1 fun Φ1 H1 k' ek R1 s1 => ?_
    cases ek
    cases k with
    | true => exact ha.2 Φ1 G σ ε1 H1 fl E R1 e2 (fun ε2 O3 ef eo Φ2 H2 σ2 R2 s2 => q1 ε2 O3 ef eo Φ2 H2 σ2 R2 (s1.trans s2)) fun d ε2 ef Φ2 H2 σ2 v R2 s2 o => q2 d ε2 ef Φ2 H2 σ2 v R2 (s1.trans s2) o
    | false => exact hb.2 Φ1 G σ ε1 H1 fl E R1 e2 (fun ε2 O3 ef eo Φ2 H2 σ2 R2 s2 => q1 ε2 O3 ef eo Φ2 H2 σ2 R2 (s1.trans s2)) fun d ε2 ef Φ2 H2 σ2 v R2 s2 o => q2 d ε2 ef Φ2 H2 σ2 v R2 (s1.trans s2) o

/-! ### loops -/
theorem whileM_succ (c : MEnv → Res (D × MEnv)) (b : MEnv → Res Flow) (n : Nat) (ε : MEnv) : whileM c b (n + 1) ε = (c ε >>= fun p => boolOf p.1 >>= fun k => if k = true then (b p.2 >>= fun fl => match fl with | .nx ε2 => whileM c b n ε2 | .rt d ε2 => pure (.rt d ε2)) else pure (.nx p.2)) := rfl
theorem simS_whl {c : IE} {b : List IS} {tc : TT} {tb : TS} (hc : SimT K pn Os O1 tc (ev cl true c)) (hb : SimS K pn Om fr O1 (some O2) tb (evB cl N b)) (w1 : ∀ i ∈ Os, i ∈ O) (w2 : ∀ i ∈ Os, i ∈ O1) (w3 : ∀ i ∈ Os, i ∈ O2) :
    SimS K pn Om fr O (some Os) (tWhile tc tb) (evS cl N (.whl c b)) := by
  refine ⟨fun z => (nomatch z), fun Φ G σ ε H fl E R e0 q1 q2 => ?_⟩
  obtain ⟨Φ0, s0, R0⟩ := R.weak w1
  have e0 : whileM (ev cl true c) (evB cl N b) N ε = .ok fl := e0
  refine ⟨fun m σw Hw => ∃ Φw εw, Same Φ Φw ∧ Rel K Φw G pn Os σw εw Hw ∧ whileM (ev cl true c) (evB cl N b) m εw = .ok fl, ⟨N, Φ0, ε, s0, R0, e0⟩, ?_⟩
  rintro m σw Hw ⟨Φw, εw, sw, Rw, ew⟩
  cases m with
  | zero => cases ew
  | succ m =>
    rw [whileM_succ] at ew
    obtain ⟨⟨x, ε1⟩, h1, e1⟩ := Res.bind_eq_ok.mp ew
    obtain ⟨k, h2, e2⟩ := Res.bind_eq_ok.mp e1
    have hk := boolOf_ok h2
    clear ew e1 h2
    have hk : x = .bool k := hk
    subst hk
    refine hc Φw G σw εw ε1 Hw _ _ Rw h1 fun Φ1 H1 k' ek R1 s1 => ?_
    cases ek
    cases k with
    | true =>
      obtain ⟨f1, h3, e3⟩ := Res.bind_eq_ok.mp e2
      rw [if_pos rfl]
      refine ⟨fun σ' H' => ∃ Φw εw, Same Φ Φw ∧ Rel K Φw G pn Os σ' εw H' ∧ whileM (ev cl true c) (evB cl N b) m εw = .ok fl, fun σ' H' hN => ⟨m, Nat.lt_succ_self m, hN⟩, ?_⟩
      refine hb.2 Φ1 G σw ε1 H1 f1 _ R1 h3 (fun ε2 O3 ef eo Φ2 H2 σ2 R2 s2 => ?_) fun d ε2 ef Φ2 H2 σ2 v R2 s2 o => ?_
      · cases eo
        subst ef
        obtain ⟨Φ3, s3, R3⟩ := R2.weak w3
        exact ⟨Φ3, ε2, sw.trans (s1.trans (s2.trans s3)), R3, e3⟩
      · subst ef
        cases e3
        exact q2 d ε2 rfl Φ2 H2 σ2 v R2 (sw.trans (s1.trans s2)) o
    | false =>
      cases e2
      rw [if_neg Bool.false_ne_true]
      obtain ⟨Φ3, s3, R3⟩ := R1.weak w2
      exact q1 ε1 Os rfl rfl Φ3 H1 σw R3 (sw.trans (s1.trans s3))
theorem forM_cons (f : D → MEnv → Res Flow) (x : D) (xs : List D) (ε : MEnv) : forM f (x :: xs) ε = (f x ε >>= fun fl => match fl with | .nx ε1 => forM f xs ε1 | .rt d ε1 => pure (.rt d ε1)) := rfl
def forF (cl : Cl) (N : Nat) (tg : Tg) (b : List IS) : D → MEnv → Res Flow := fun x ε => do
  let ε2 ← setTg tg x ε
  evB cl N b ε2
theorem simS_for {X : Cx} {k : IK} {as : List IE} {tg : Tg} {b : List IS} {ts : List TE} {w : List V → Hp → (It → Hp → Prop) → Prop} {g : TG} {tb : TS} (hK : X.K = K) (h : SimA K pn O O1 (tL ts) (evA cl as)) (hn : as.all (fun a => !isO a) = true) (hw : NatI X k as.length w)
    (hg : SimG K pn tg g) (hb : SimS K pn Om fr (remL tg.slots Os) (some O2) tb (evB cl N b)) (w1 : ∀ i ∈ Os, i ∈ O1) (w2 : ∀ i ∈ Os, i ∈ O2) :
    SimS K pn Om fr O (some Os) (tFor (fun σ H R => tL ts σ H fun vs H' => w vs H' R) g tb) (evS cl N (.for_ k as tg b)) := by
  refine ⟨fun z => (nomatch z), fun Φ G σ ε H fl E R e0 q1 q2 => ?_⟩
  obtain ⟨⟨os, ε1⟩, h1, e1⟩ := Res.bind_eq_ok.mp e0
  obtain ⟨ds, h2, e2⟩ := Res.bind_eq_ok.mp e1
  obtain ⟨items, h3, e3⟩ := Res.bind_eq_ok.mp e2
  clear e0 e1 e2
  have e3 : forM (forF cl N tg b) items ε1 = .ok fl := e3
  refine h Φ G σ ε ε1 H os _ R h1 fun Φ1 H1 vs R1 s1 ov => ?_
  refine hw vs H1 _ (by rw [ov.len, (evA_shape h1).1]) ⟨Φ1, ds, items, R1.sub, by rw [hK]; exact ov.vals (evA_vals h1 hn) h2, h3, fun J Φ2 H2 gr it => ?_⟩
  rw [hK] at it
  obtain ⟨Φ3, s3, R3⟩ := (R1.grow gr).weak w1
  have s13 : Same Φ Φ3 := s1.trans (gr.up.trans s3)
  refine ⟨fun i m σw Hw => m = items.length - i ∧ i ≤ items.length ∧ ∃ Φw εw, Same Φ3 Φw ∧ Rel K Φw G pn Os σw εw Hw ∧ forM (forF cl N tg b) (items.drop i) εw = .ok fl, ⟨items.length, rfl, Nat.zero_le _, Φ3, ε1, Same.refl _, R3, e3⟩, ?_⟩
  rintro i m σw Hw ⟨rfl, hi, Φw, εw, sw, Rw, ew⟩
  by_cases hlt : i < items.length
  · right
    refine ⟨it.go i Hw (s3.trans (sw.trans Rw.sub)) hlt, fun σ' H' => ∃ Φw εw, Same Φ3 Φw ∧ Rel K Φw G pn Os σ' εw H' ∧ forM (forF cl N tg b) (items.drop (i + 1)) εw = .ok fl, fun σ' H' hN => ⟨items.length - (i + 1), by omega, rfl, hlt, hN⟩, fun x H' hy => ?_⟩
    obtain ⟨Φ4, g4, dx, ex, px⟩ := it.yld i Hw Φw x H' (s3.trans sw) Rw.sub hy hlt
    have hdr : items.drop i = dx :: items.drop (i + 1) := by
      obtain ⟨hi', e'⟩ := List.getElem?_eq_some_iff.mp ex
      rw [List.drop_eq_getElem_cons hi', e']
    rw [hdr, forM_cons] at ew
    obtain ⟨f1, h4, e4⟩ := Res.bind_eq_ok.mp ew
    obtain ⟨ε2, h5, e5⟩ := Res.bind_eq_ok.mp h4
    refine hg Os Φ4 G σw εw ε2 H' x dx _ (Rw.grow g4) px h5 fun σ2 R5 _ _ => ?_
    refine hb.2 Φ4 G σ2 ε2 H' f1 _ R5 e5 (fun ε3 O3 ef eo Φ5 H5 σ5 R6 s6 => ?_) fun d ε3 ef Φ5 H5 σ5 v R6 s6 o => ?_
    · cases eo
      subst ef
      obtain ⟨Φ7, s7, R7⟩ := R6.weak w2
      exact ⟨Φ7, ε3, sw.trans (g4.up.trans (s6.trans s7)), R7, e4⟩
    · subst ef
      cases e4
      exact q2 d ε3 rfl Φ5 H5 σ5 v R6 (s13.trans (sw.trans (g4.up.trans s6))) o
  · left
    have ei : i = items.length := by omega
    subst ei
    rw [List.drop_length] at ew
    cases ew
    exact ⟨it.stop _ Hw (s3.trans (sw.trans Rw.sub)) rfl, q1 εw Os rfl rfl Φw Hw σw Rw (s13.trans sw)⟩
end
end Mir
/-! Mir, part T: the check of statements, and that it is sound. -/
namespace Mir
open PySem PySem.Spec L2

def isCompE : Expr → Bool
  | .ListComp _ _ _ _ => true
  | .SetComp _ _ _ _ => true
  | .DictComp _ _ _ _ _ => true
  | _ => false
def isTupE : Expr → Bool
  | .Tuple _ _ _ => true
  | .List _ _ => true
  | .Starred _ _ => true
  | _ => false
/-- y = [..]: stored within the comprehension's frame -/
def swapB (c : Cfg) (t v : Expr) : Bool := match t, v with
  | .Name y py, .ListComp _ _ scope pos => decide (c.sc.names.lookup y = some .local) && (py.line == pos.line) && !(scope.names.any fun (n, k) => n == y && (k == .local || k == .cell))
  | _, _ => false
/-- y = [..]: stored as any value is -/
def compPlain (c : Cfg) (t v : Expr) : Bool := match t, v with
  | .Tuple _ _ _, .ListComp _ _ _ _ => true
  | .Tuple [.Name x _, .Name y _] _ _, .Tuple [a, b] _ _ => !isStar a && !isStar b && (decide (c.sc.names.lookup x ≠ some .local) || decide (c.sc.names.lookup y ≠ some .local))
  | .Name y py, .ListComp _ _ scope pos => !(decide (c.sc.names.lookup y = some .local) && (py.line == pos.line) && !(scope.names.any fun (n, k) => n == y && (k == .local || k == .cell)))
  | _, _ => false
def asgOk (t v : Expr) : Bool := !isCompE v && !(isTupE t && isTupE v)
def meth1 : Expr → Option (Str × Str × Expr)
  | .Call (.Attribute (.Name x _) m apos) [e] [] cpos => if (apos.endLine == cpos.line) && !isStar e then some (x, m, e) else none
  | _ => none
def joinO : Option (List Nat) → Option (List Nat) → Option (List Nat)
  | none, o => o
  | o, none => o
  | some a, some b => some (interS a b)
def isCompI : IE → Bool
  | .comp _ _ _ _ _ => true
  | _ => false
def parOk (c : Cfg) (i j : Nat) (x y : Str) (px py : Pos) (a b : Expr) : Bool :=
  decide (c.N[i]? = some x) && decide (c.N[j]? = some y) && decide (i ≠ j) && decide (c.sc.names.lookup x = some .local) && decide (c.sc.names.lookup y = some .local) && decide (x ≠ y) && (py.line == px.line) &&
  !([a, b].all (foldedForSure 8)) && !([a, b].all (constantsAlone 8)) && !isStar a && !isStar b && decide (i ∉ c.muts ∧ i ∉ c.dsl) && decide (j ∉ c.muts ∧ j ∉ c.dsl)
/-- a name that holds dicts alone, stored here -/
def dicTo (c : Cfg) (i : Nat) (x : Str) : Bool := locIs c i x && decide (i ∈ c.dsl) && decide (i ∉ c.muts)

mutual
def chkS (c : Cfg) : IS → Stmt → List Nat → Option (Option (List Nat))
  | .set tg e, st, O => match st with
    | .Assign [t] v pos => match chk c false e v O with
      | some (O1, b) => if tgIs c tg t && (asgOk t v || (isCompI e && swapB c t v) || compPlain c t v) then
          (match tg with
          | .nm i => if b = true then some (some (i :: O1)) else some (some (remL [i] O1))
          | .tp is => some (some (remL is O1)))
        else none
      | none => none
    | _ => none
  | .par i j a b, st, O => match st with
    | .Assign [.Tuple [.Name x px, .Name y py] _ _] (.Tuple [ea, eb] _ _) _ => match chk c false a ea O with
      | some (O1, _) => match chk c false b eb O1 with
        | some (O2, _) => if parOk c i j x y px py ea eb then some (some (rem j (rem i O2))) else none
        | none => none
      | none => none
    | _ => none
  | .sub i k e, st, O => match st with
    | .Assign [.Subscript (.Name x _) ix _] v pos => match chk c false e v O with
      | some (O1, _) => match chk c false k ix O1 with
        | some (O2, _) => if varIs c i x && plainIx ix && decide (i ∈ O2) then some (some O2) else none
        | none => none
      | none => none
    | _ => none
  | .app i e, st, O => match st with
    | .Expr v _ => match meth1 v with
      | some (x, m, ea) => match chk c false e ea O with
        | some (O1, _) => if slotIs c i x && decide (m = "append") && decide (i ∈ O) && decide (i ∈ O1) then some (some O1) else none
        | none => none
      | none => none
    | _ => none
  | .ext i e, st, O => match st with
    | .Expr v _ => match meth1 v with
      | some (x, m, ea) => match chk c false e ea O with
        | some (O1, b) => if slotIs c i x && decide (m = "extend") && decide (i ∈ O) && decide (i ∈ O1) && b then some (some O1) else none
        | none => none
      | none => none
    | _ => none
  | .ex e, st, O => match st with
    | .Expr v _ => match chk c false e v O with
      | some (O1, _) => if isCompE v = true then none else some (some O1)
      | none => none
    | _ => none
  | .ite t a b, st, O => match st with
    | .If x p q _ => match chk c true t x O with
      | some (O1, _) => match chkB c a p O1, chkB c b q O1 with
        | some Oa, some Ob => some (joinO Oa Ob)
        | _, _ => none
      | none => none
    | _ => none
  | .whl t b, st, O => match st with
    | .While x p [] _ => match chk c true t x O with
      | some (O1, _) => match chkB c b p O1 with
        | some O2 => match chk c true t x (interS (interS O O1) (O2.getD O1)) with
          | some (O3, _) => match chkB c b p O3 with
            | some O4 => if subS (interS (interS O O1) (O2.getD O1)) O3 && subS (interS (interS O O1) (O2.getD O1)) (O4.getD (interS (interS O O1) (O2.getD O1))) then some (some (interS (interS O O1) (O2.getD O1))) else none
            | none => none
          | none => none
        | none => none
      | none => none
    | _ => none
  | .for_ k as tg b, st, O => match st with
    | .For t iter p [] _ => match iterArgs c k iter with
      | some es => match chkA c as es O with
        | some O1 => if as.all (fun a => !isO a) && itTg k t && notSet iter && tgIs c tg t then
            match chkB c b p (remL tg.slots O1) with
            | some O2 => match chkB c b p (remL tg.slots (remL tg.slots (interS O1 (O2.getD O1)))) with
              | some O3 => if subS (remL tg.slots (interS O1 (O2.getD O1))) (O3.getD (remL tg.slots (interS O1 (O2.getD O1)))) then some (some (remL tg.slots (interS O1 (O2.getD O1)))) else none
              | none => none
            | none => none
          else none
        | none => none
      | none => none
    | _ => none
  | .ret e, st, O => match st with
    | .Return (some v) _ => match chk c false e v O with
      | some (O1, b) => if subS c.muts O1 && (!c.fresh || b) then some none else none
      | none => none
    | _ => none
  | .pass, st, O => match st with
    | .Pass _ => some (some O)
    | _ => none
  | .never, _, _ => some none
  | .nat _, _, _ => none
  | .dnew i t, st, O => match st with
    | .Assign [.Name x _] (.Dict [] [] _) _ => if dicTo c i x then some (some (i :: O)) else none
    | _ => none
  | .dof i t e, st, O => match st with
    | .Assign [.Name x _] (.Call (.Name f _) [a] [] _) _ => if dicTo c i x && !t && decide (f = "dict") && bl c f && !isStar a then
        (match chk c false e a O with
        | some (O1, _) => some (some (i :: O1))
        | none => none)
      else none
    | _ => none
  | .dput i k e, st, O => match st with
    | .Assign [.Subscript (.Name x _) ix _] v pos => match chk c false e v O with
      | some (O1, _) => match chk c false k ix O1 with
        | some (O2, _) => if dicIs c i x && plainIx ix && decide (i ∈ O1) && decide (i ∈ O2) then some (some O2) else none
        | none => none
      | none => none
    | _ => none
  termination_by structural s => s
def chkB (c : Cfg) : List IS → List Stmt → List Nat → Option (Option (List Nat))
  | [], sts, O => match sts with
    | [] => some (some O)
    | _ => none
  | s :: r, sts, O => match sts with
    | [] => none
    | st :: sts => match chkS c s st O with
      | some (some O1) => chkB c r sts O1
      | some none => some none
      | none => none
  termination_by structural s => s
end

structure StX (c : Cfg) (X : Cx) (cl : Cl) : Prop where
  ctx : Ctx c X
  calls : CallsOk c X cl
  pass : PassesOwn (model X.prog X.w) X.A X.env X.xe
  kind : X.env.scope.kind = .function
  topB : c.top = true
def GoodS (cl : Cl) (N : Nat) (s : IS) : Prop := ∀ (c : Cfg) (X : Cx) (st : Stmt) (O : List Nat) (Oo : Option (List Nat)) (pn : List (Nat × V)), StX c X cl → PnOk c pn → chkS c s st O = some Oo →
  ∃ t, PS X st t ∧ SimS X.K pn c.muts c.fresh O Oo t (evS cl N s)
def GoodB (cl : Cl) (N : Nat) (b : List IS) : Prop := ∀ (c : Cfg) (X : Cx) (sts : List Stmt) (O : List Nat) (Oo : Option (List Nat)) (pn : List (Nat × V)), StX c X cl → PnOk c pn → chkB c b sts O = some Oo →
  ∃ t, PSs X sts t ∧ SimS X.K pn c.muts c.fresh O Oo t (evB cl N b)

section
variable {cl : Cl} {N : Nat}
theorem swaps_no {v : Expr} (h : isCompE v = false) (t : Option Expr) (l : Nat) (env : Env) : swapsWith v t l env = pure false := by
  cases v <;> first | rfl | cases h
theorem swapped_no {t v : Expr} (h : (isTupE t && isTupE v) = false) (env : Env) : swappedStores [t] v env = pure none := by
  cases t <;> first | rfl | skip
  all_goals (cases v <;> first | rfl | cases h)
theorem asg1 {t : Expr} (h : isStar t = false) (env : Env) : (assignEach [t] env).map (·.2) = [assign t env] := by
  cases t <;> first | rfl | cases h
theorem tg_star {c : Cfg} {tg : Tg} {t : Expr} (h : tgIs c tg t = true) : isStar t = false := by
  unfold tgIs at h
  rw [Bool.and_eq_true] at h
  cases t <;> first | rfl | skip
  cases tg <;> cases h.2
theorem plain_swap {c : Cfg} {X : Cx} (C : Ctx c X) {t v : Expr} (h : compPlain c t v = true) (l : Nat) : swapsWithSole [t] v l X.env = pure false := by
  unfold compPlain at h
  split at h
  · rfl
  · rfl
  · rename_i y py elt gs scope pos
    rw [Bool.not_eq_true'] at h
    show swapsWith (.ListComp elt gs scope pos) (some (.Name y py)) l X.env = pure false
    unfold swapsWith
    have ky : X.env.kindOf y = c.sc.names.lookup y := by rw [← C.sc]; rfl
    have e1 : (X.env.kindOf y == some NameKind.local) = decide (c.sc.names.lookup y = some .local) := by
      rw [ky]
      cases hd : decide (c.sc.names.lookup y = some .local) with
      | true => rw [of_decide_eq_true hd]; rfl
      | false =>
        have := of_decide_eq_false hd
        simpa using this
    simp only [Expr.pos, e1, Bool.and_assoc] at h ⊢
    rw [h, Bool.and_false]
  · cases h
theorem plain_swapped {c : Cfg} {X : Cx} (C : Ctx c X) {t v : Expr} (h : compPlain c t v = true) : swappedStores [t] v X.env = pure none := by
  unfold compPlain at h
  split at h
  · rfl
  · rename_i x px y py kt pt a b k2 p2
    simp only [Bool.and_eq_true, Bool.or_eq_true, decide_eq_true_iff, Bool.not_eq_true'] at h
    obtain ⟨⟨h1, h2⟩, h3⟩ := h
    have kx : X.env.kindOf x = c.sc.names.lookup x := by rw [← C.sc]; rfl
    have ky : X.env.kindOf y = c.sc.names.lookup y := by rw [← C.sc]; rfl
    have nb : ∀ z : Option NameKind, z ≠ some .local → (z == some NameKind.local) = false := fun z hz => by
      rw [beq_eq_false_iff_ne]
      exact hz
    have st : ∀ e, isStar e = false → (match (generalizing := false) e with | .Starred .. => true | _ => false) = false := by
      intro e he
      cases e <;> first | rfl | cases he
    have sa := st a h1
    have sb := st b h2
    unfold swappedStores
    rcases h3 with h3 | h3
    · by_cases c1 : X.env.blockKind = .function
      · simp [kx, ky, h3, c1, List.filterMap_cons, Expr.pos]
        intro _ _ hlen
        exfalso
        revert hlen
        split <;> simp
      · simp [c1]
    · by_cases c1 : X.env.blockKind = .function
      · simp [kx, ky, h3, c1, List.filterMap_cons, Expr.pos]
        intro _ _ hlen
        exfalso
        revert hlen
        split <;> simp
      · simp [c1]
  · rfl
  · cases h
theorem goodS_set {tg : Tg} {e : IE} : GoodS cl N (.set tg e) := by
  intro c X st O Oo pn C hp h
  unfold chkS at h
  split at h
  · rename_i t v pos
    split at h
    · rename_i O1 b h1
      split at h
      · rename_i hc
        rw [Bool.and_eq_true, Bool.or_eq_true, Bool.or_eq_true] at hc
        obtain ⟨htg, hc⟩ := hc
        obtain ⟨pg, tgm⟩ := tg_sound C.ctx htg
        have hpt : ∀ p ∈ pn, p.1 ∉ tg.slots := fun p hp' z => (hp.prot p hp').elim (tgm _ z).1 (tgm _ z).2
        -- the reading of the value, with the statement
        have key : ∃ te, PS X (.Assign [t] v pos) (tAsg te (tgR X.K tg)) ∧ Sim X.K pn O O1 b te (ev cl false e) := by
          rcases hc with (hc | hc) | hc
          rotate_left 2
          · have pe := (good e false c X v O O1 b pn C.ctx C.calls hp h1).1 rfl
            exact ⟨_, ps_asg pe pg (plain_swap C.ctx hc _) (plain_swapped C.ctx hc) (asg1 (tg_star htg) _), sim_can⟩
          · unfold asgOk at hc
            rw [Bool.and_eq_true, Bool.not_eq_true', Bool.not_eq_true'] at hc
            have pe := (good e false c X v O O1 b pn C.ctx C.calls hp h1).1 rfl
            exact ⟨_, ps_asg pe pg (swaps_no hc.1 _ _ _) (swapped_no hc.2 _) (asg1 (tg_star htg) _), sim_can⟩
          · rw [Bool.and_eq_true] at hc
            obtain ⟨hi, hsw⟩ := hc
            cases e with
            | comp k as tg2 cs e' =>
              obtain ⟨elt, target, iter, ifs, scope, pos2, own, wi, g, tt, te, rfl, p1, p2, p3, p4, p5, p6, rfl, p7, p8⟩ := comp_parts (goodA as) (goodTs cs) (good e') C.ctx C.calls hp h1
              cases t with
              | Name y py =>
                have hsw : (decide (c.sc.names.lookup y = some .local) && (py.line == pos2.line) && !(scope.names.any fun (n, k) => n == y && (k == .local || k == .cell))) = true := hsw
                simp only [Bool.and_eq_true, decide_eq_true_iff, Bool.not_eq_true'] at hsw
                obtain ⟨⟨hl, hln⟩, han⟩ := hsw
                have hyl : X.env.scope.names.lookup y = some .local := by rw [C.ctx.sc]; exact hl
                cases tg with
                | nm i =>
                  have hN : X.N[i]? = some y := by
                    unfold tgIs at htg
                    rw [Bool.and_eq_true] at htg
                    have := htg.2
                    have this : locIs c i y = true := this
                    unfold locIs at this
                    rw [Bool.and_eq_true, decide_eq_true_iff] at this
                    rw [C.ctx.N]
                    exact this.1
                  exact ⟨_, ps_setLc C.ctx.calm (by rw [C.ctx.N]; exact C.ctx.nd) hN hyl (sw_true C.kind hyl hln han) p1 p2 p3 p4 p5 fun x => folded_no p6 _ _, p8⟩
                | tp is =>
                  unfold tgIs at htg
                  rw [Bool.and_eq_true] at htg
                  cases htg.2
              | _ => cases hsw
            | _ => cases hi
        obtain ⟨te, ps, sm⟩ := key
        cases tg with
        | nm i =>
          have hpi : ∀ p ∈ pn, p.1 ≠ i := fun p hp' z => hpt p hp' (by simp [Tg.slots, z])
          have h : (if b = true then some (some (i :: O1)) else some (some (remL [i] O1))) = some Oo := h
          cases b with
          | true =>
            cases h
            exact ⟨_, ps, simS_setL hpi sm⟩
          | false =>
            cases h
            exact ⟨_, ps, simS_set sm (tg_sim hpt)⟩
        | tp is =>
          cases h
          exact ⟨_, ps, simS_set sm (tg_sim hpt)⟩
      · cases h
    · cases h
  · cases h
theorem swapped_par {c : Cfg} {X : Cx} (C : StX c X cl) {i j : Nat} {x y : Str} {px py pt pt2 : Pos} {a b : Expr} {kt k2} (h : parOk c i j x y px py a b = true) :
    swappedStores [.Tuple [.Name x px, .Name y py] kt pt] (.Tuple [a, b] k2 pt2) X.env = pure (some [x, y]) := by
  unfold parOk at h
  simp only [Bool.and_eq_true, decide_eq_true_iff, Bool.not_eq_true'] at h
  obtain ⟨⟨⟨⟨⟨⟨⟨⟨⟨⟨⟨⟨h1, h2⟩, h3⟩, h4⟩, h5⟩, h6⟩, h7⟩, h8⟩, h9⟩, h10⟩, h11⟩, h12⟩, h13⟩ := h
  have kx : X.env.kindOf x = some .local := by rw [← h4, ← C.ctx.sc]; rfl
  have ky : X.env.kindOf y = some .local := by rw [← h5, ← C.ctx.sc]; rfl
  have hb : X.env.blockKind = .function := by unfold Env.blockKind; rw [C.kind]; rfl
  have st : ∀ e, isStar e = false → (match (generalizing := false) e with | .Starred .. => true | _ => false) = false := by
    intro e he
    cases e <;> first | rfl | cases he
  have sa := st a h10
  have sb := st b h11
  have hed : ([x, y] : List Str).eraseDups.length = 2 := by
    have : (y == x) = false := by simpa using fun z => h6 z.symm
    simp [List.eraseDups_cons, this]
  unfold swappedStores
  have h8' : (foldedForSure 8 a && foldedForSure 8 b) = false := by simpa using h8
  have h9' : (constantsAlone 8 a && constantsAlone 8 b) = false := by simpa using h9
  have h8'' : ¬ (foldedForSure 8 a = true ∧ foldedForSure 8 b = true) := by simpa using h8'
  have h9'' : ¬ (constantsAlone 8 a = true ∧ constantsAlone 8 b = true) := by simpa using h9'
  have h7' : py.line = px.line := by simpa using h7
  have hed' : ([x, y] : List Str).eraseDups.length = 2 := hed
  simp only [List.any_cons, List.any_nil, List.all_cons, List.all_nil, sa, sb, hb, Expr.pos, List.filterMap_cons, List.filterMap_nil, kx, ky, h7', List.head?_cons, Option.map_some, Option.getD_some, beq_self_eq_true, Bool.and_self, if_true]
  simp [hed', h8'', h9'']
  intro z
  exfalso
  clear sa sb st h8'' h9'' h8' h9' h8 h9
  rcases z with z | z
  · cases a <;> first | (cases h10; done) | cases z
  · cases b <;> first | (cases h11; done) | cases z
theorem goodS_par {i j : Nat} {a b : IE} : GoodS cl N (.par i j a b) := by
  intro c X st O Oo pn C hp h
  unfold chkS at h
  split at h
  · rename_i x px y py kt pt ea eb k2 pt2 pos
    split at h
    · rename_i O1 b1 h1
      split at h
      · rename_i O2 b2 h2
        split at h
        · rename_i hc
          cases h
          have pa := (good a false c X ea O O1 b1 pn C.ctx C.calls hp h1).1 rfl
          have pb := (good b false c X eb O1 O2 b2 pn C.ctx C.calls hp h2).1 rfl
          have hw := swapped_par (kt := kt) (k2 := k2) (pt := pt) (pt2 := pt2) C hc
          unfold parOk at hc
          simp only [Bool.and_eq_true, decide_eq_true_iff, Bool.not_eq_true'] at hc
          obtain ⟨⟨⟨⟨⟨⟨⟨⟨⟨⟨⟨⟨q1, q2⟩, q3⟩, q4⟩, q5⟩, q6⟩, q7⟩, q8⟩, q9⟩, q10⟩, q11⟩, q12⟩, q13⟩ := hc
          refine ⟨_, ps_par C.ctx.calm (by rw [C.ctx.N]; exact C.ctx.nd) (by rw [C.ctx.N]; exact q1) (by rw [C.ctx.N]; exact q2) q3 (by rw [C.ctx.sc]; exact q4) (by rw [C.ctx.sc]; exact q5) (PEs.cons pa q10 (PEs.cons pb q11 PEs.nil)).pa hw, simS_par (fun p hp' z => (hp.prot p hp').elim (fun y => q12.1 (z ▸ y)) fun y => q12.2 (z ▸ y)) (fun p hp' z => (hp.prot p hp').elim (fun y => q13.1 (z ▸ y)) fun y => q13.2 (z ▸ y)) sim_can sim_can⟩
        · cases h
      · cases h
    · cases h
  · cases h
theorem sub_swap {v o ix : Expr} {p : Pos} (l : Nat) (env : Env) : swapsWith v (some (.Subscript o ix p)) l env = pure false := by
  cases v <;> rfl
theorem goodS_sub {i : Nat} {k e : IE} : GoodS cl N (.sub i k e) := by
  intro c X st O Oo pn C hp h
  unfold chkS at h
  split at h
  · rename_i x px ix p1 v pos
    split at h
    · rename_i O1 b1 h1
      split at h
      · rename_i O2 b2 h2
        split at h
        · rename_i hc
          cases h
          unfold varIs at hc
          simp only [Bool.and_eq_true, decide_eq_true_iff] at hc
          have pa := (good e false c X v O O1 b1 pn C.ctx C.calls hp h1).1 rfl
          have pb := (good k false c X ix O1 O2 b2 pn C.ctx C.calls hp h2).1 rfl
          refine ⟨_, ps_asg pa (pg_sub (C.ctx.var (pos := px) hc.1.1.1) pb set_list (ha := ?_)) (sub_swap (o := .Name x px) (ix := ix) (p := p1) pos.line X.env) rfl rfl, simS_sub (hp.no hc.1.1.2) sim_can sim_can hc.2⟩
          intro w
          have hix := hc.1.2
          clear h1 h2 pb
          cases ix <;> first | rfl | cases hix
        · cases h
      · cases h
    · cases h
  · cases h
theorem meth1_ok {v : Expr} {x m : Str} {e : Expr} (h : meth1 v = some (x, m, e)) : ∃ px apos cpos, v = .Call (.Attribute (.Name x px) m apos) [e] [] cpos ∧ (apos.endLine == cpos.line) = true ∧ isStar e = false := by
  unfold meth1 at h
  split at h
  · split at h
    · rename_i hc
      cases h
      rw [Bool.and_eq_true, Bool.not_eq_true'] at hc
      exact ⟨_, _, _, rfl, hc.1, hc.2⟩
    · cases h
  · cases h
theorem meth1_pe {c : Cfg} {X : Cx} (C : StX c X cl) {i : Nat} {x m : Str} {e : Expr} {px apos cpos : Pos} {t : TE} {id : String} {r : V → List V → Hp → VK → Prop} (slot : Slot "list" m id) (hty : typeOf (.builtin id) = pure (.type "method_descriptor")) (hm : MtR X id r)
    (hs : slotIs c i x = true) (hl : (apos.endLine == cpos.line) = true) (he : isStar e = false) (p : PE X e t) : PE X (.Call (.Attribute (.Name x px) m apos) [e] [] cpos) (tBM X.K "list" r (tVar i) (tL [t])) := by
  have h1 : starEach [e] X.env = (false, eval e X.env) :: starEach [] X.env := star_no he
  refine pe_bm PySem.F.plainAttrs_list slot hty hm (C.ctx.var hs) (PEs.cons p he PEs.nil).pa (hfew := ?_) (hline := hl) (hs := h1) (hplain := rfl)
  rw [h1]
  rfl
theorem goodS_app {i : Nat} {e : IE} : GoodS cl N (.app i e) := by
  intro c X st O Oo pn C hp h
  unfold chkS at h
  split at h
  · rename_i v pos
    split at h
    · rename_i x m ea hm
      obtain ⟨px, apos, cpos, rfl, hl, hst⟩ := meth1_ok hm
      split at h
      · rename_i O1 b1 h1
        split at h
        · rename_i hc
          cases h
          simp only [Bool.and_eq_true, decide_eq_true_iff] at hc
          obtain ⟨⟨⟨c1, rfl⟩, c3⟩, c4⟩ := hc
          have pa := (good e false c X ea O O1 b1 pn C.ctx C.calls hp h1).1 rfl
          exact ⟨_, ps_expr (meth1_pe C PySem.F.slot_list_append PySem.F.type_list_append mt_append c1 hl hst pa) rfl, simS_app sim_can c3 c4⟩
        · cases h
      · cases h
    · cases h
  · cases h
theorem goodS_ext {i : Nat} {e : IE} : GoodS cl N (.ext i e) := by
  intro c X st O Oo pn C hp h
  unfold chkS at h
  split at h
  · rename_i v pos
    split at h
    · rename_i x m ea hm
      obtain ⟨px, apos, cpos, rfl, hl, hst⟩ := meth1_ok hm
      split at h
      · rename_i O1 b1 h1
        split at h
        · rename_i hc
          cases h
          simp only [Bool.and_eq_true, decide_eq_true_iff] at hc
          obtain ⟨⟨⟨⟨c1, rfl⟩, c3⟩, c4⟩, rfl⟩ := hc
          have pa := (good e false c X ea O O1 true pn C.ctx C.calls hp h1).1 rfl
          exact ⟨_, ps_expr (meth1_pe C PySem.F.slot_list_extend PySem.F.type_list_extend mt_extend c1 hl hst pa) rfl, simS_ext sim_can c3 c4⟩
        · cases h
      · cases h
    · cases h
  · cases h
theorem goodS_ex {e : IE} : GoodS cl N (.ex e) := by
  intro c X st O Oo pn C hp h
  unfold chkS at h
  split at h
  · rename_i v pos
    split at h
    · rename_i O1 b1 h1
      split at h
      · cases h
      · rename_i hc
        cases h
        exact ⟨_, ps_expr ((good e false c X v O O1 b1 pn C.ctx C.calls hp h1).1 rfl) (swaps_no (by simpa using hc) _ _ _), simS_ex sim_can⟩
    · cases h
  · cases h
theorem goodS_ret {e : IE} : GoodS cl N (.ret e) := by
  intro c X st O Oo pn C hp h
  unfold chkS at h
  split at h
  · rename_i v pos
    split at h
    · rename_i O1 b1 h1
      split at h
      · rename_i hc
        cases h
        simp only [Bool.and_eq_true, Bool.or_eq_true, Bool.not_eq_true'] at hc
        refine ⟨_, ps_ret ((good e false c X v O O1 b1 pn C.ctx C.calls hp h1).1 rfl), simS_ret ?_ (subS_ok hc.1)⟩
        cases hf : c.fresh with
        | true =>
          rw [hf] at hc
          have : b1 = true := hc.2.resolve_left (by simp)
          subst this
          exact sim_can
        | false => exact Sim.shut sim_can
      · cases h
    · cases h
  · cases h
theorem goodS_pass : GoodS cl N .pass := by
  intro c X st O Oo pn C hp h
  unfold chkS at h
  split at h
  · cases h
    exact ⟨_, ps_pass, simS_pass⟩
  · cases h
theorem dicTo_ok {c : Cfg} {X : Cx} (C : Ctx c X) {pn : List (Nat × V)} (hp : PnOk c pn) {i : Nat} {x : Str} {pos : Pos} (h : dicTo c i x = true) : PG X (.Name x pos) (gName i) ∧ (∀ p ∈ pn, p.1 = i → p.2 = dTag) ∧ (i, dTag) ∈ pn := by
  unfold dicTo at h
  simp only [Bool.and_eq_true, decide_eq_true_iff] at h
  refine ⟨C.loc h.1.1, fun p hp' z => ?_, hp.has i h.1.2⟩
  exact Classical.byContradiction fun q => h.2 (z ▸ hp.val p hp' q)
theorem goodS_dnew {i : Nat} {t : Bool} : GoodS cl N (.dnew i t) := by
  intro c X st O Oo pn C hp h
  unfold chkS at h
  split at h
  · rename_i x px pd pos
    split at h
    · rename_i hc
      cases h
      obtain ⟨pg, h1, h2⟩ := dicTo_ok C.ctx hp (pos := px) hc
      refine ⟨_, ps_asg (te := if t = true then tGNewT else tDNewK) ?_ pg rfl rfl rfl, simS_dnew h1 h2⟩
      cases t with
      | false => exact pe_dnewK
      | true => exact pe_gnewT
    · cases h
  · cases h
theorem goodS_dof {i : Nat} {t : Bool} {e : IE} : GoodS cl N (.dof i t e) := by
  intro c X st O Oo pn C hp h
  unfold chkS at h
  split at h
  · rename_i x px f pf a pc pos
    split at h
    · rename_i hc
      simp only [Bool.and_eq_true, decide_eq_true_iff, Bool.not_eq_true'] at hc
      obtain ⟨⟨⟨⟨c1, rfl⟩, rfl⟩, c4⟩, c5⟩ := hc
      split at h
      · rename_i O1 b1 h1
        cases h
        obtain ⟨pg, g1, g2⟩ := dicTo_ok C.ctx hp (pos := px) c1
        have pa := (good e false c X a O O1 b1 pn C.ctx C.calls hp h1).1 rfl
        refine ⟨_, ps_asg (ty_call C.ctx c4 rfl (by decide +kernel) (call_dictP C.ctx.calm) (PEs.cons pa c5 PEs.nil)) pg rfl rfl rfl, simS_dof g1 g2 sim_can⟩
      · cases h
    · cases h
  · cases h
theorem goodS_dput {i : Nat} {k e : IE} : GoodS cl N (.dput i k e) := by
  intro c X st O Oo pn C hp h
  unfold chkS at h
  split at h
  · rename_i x px ix p1 v pos
    split at h
    · rename_i O1 b1 h1
      split at h
      · rename_i O2 b2 h2
        split at h
        · rename_i hc
          cases h
          unfold dicIs at hc
          simp only [Bool.and_eq_true, decide_eq_true_iff] at hc
          obtain ⟨⟨⟨⟨c1, c2⟩, c3⟩, c4⟩, c5⟩ := hc
          have pa := (good e false c X v O O1 b1 pn C.ctx C.calls hp h1).1 rfl
          have pb := (good k false c X ix O1 O2 b2 pn C.ctx C.calls hp h2).1 rfl
          have hu : X.A.units + 20 < cLine := by have := C.ctx.un; omega
          exact ⟨_, ps_gput hu (C.ctx.var (pos := px) c1) pb pa (sub_swap (o := .Name x px) (ix := ix) (p := p1) pos.line X.env), simS_dput sim_can sim_can c4 c5⟩
        · cases h
      · cases h
    · cases h
  · cases h
theorem goodS_never : GoodS cl N .never := by
  intro c X st O Oo pn C hp h
  unfold chkS at h
  cases h
  exact ⟨_, ps_never, simS_never⟩
theorem goodS_nat {k : Nat} : GoodS cl N (.nat k) := by
  intro c X st O Oo pn C hp h
  unfold chkS at h
  cases h
theorem join_ok {K : PySem.W.Frag} {pn : List (Nat × V)} {Om O : List Nat} {fr : Bool} {Oa Ob : Option (List Nat)} {t u : TS} {m n : MEnv → Res Flow} (h1 : SimS K pn Om fr O Oa t m) (h2 : SimS K pn Om fr O Ob u n) : SimS K pn Om fr O (joinO Oa Ob) t m ∧ SimS K pn Om fr O (joinO Oa Ob) u n := by
  cases Oa with
  | none =>
    cases Ob with
    | none => exact ⟨h1, h2⟩
    | some b => exact ⟨h1.weakD, h2⟩
  | some a =>
    cases Ob with
    | none => exact ⟨h1, h2.weakD⟩
    | some b => exact ⟨h1.weakN fun i hi => (interS_ok.mp hi).1, h2.weakN fun i hi => (interS_ok.mp hi).2⟩
theorem goodS_ite {t : IE} {a b : List IS} (ga : GoodB cl N a) (gb : GoodB cl N b) : GoodS cl N (.ite t a b) := by
  intro c X st O Oo pn C hp h
  unfold chkS at h
  split at h
  · rename_i x p q pos
    split at h
    · rename_i O1 b1 h1
      split at h
      · rename_i Oa Ob ha hb
        cases h
        have pt := (good t true c X x O O1 b1 pn C.ctx C.calls hp h1).2 rfl
        obtain ⟨ta, pa, sa⟩ := ga c X p O1 Oa pn C hp ha
        obtain ⟨tb, pb, sb⟩ := gb c X q O1 Ob pn C hp hb
        obtain ⟨ja, jb⟩ := join_ok sa sb
        exact ⟨_, ps_if pt pa pb, simS_ite simT_can ja jb⟩
      · cases h
    · cases h
  · cases h
theorem getD_ok {K : PySem.W.Frag} {pn : List (Nat × V)} {Om O O' : List Nat} {fr : Bool} {Oa : Option (List Nat)} {t : TS} {m : MEnv → Res Flow} (h1 : SimS K pn Om fr O Oa t m) : SimS K pn Om fr O (some (Oa.getD O')) t m := by
  cases Oa with
  | none => exact h1.weakD
  | some a => exact h1
theorem goodS_whl {t : IE} {b : List IS} (gb : GoodB cl N b) : GoodS cl N (.whl t b) := by
  intro c X st O Oo pn C hp h
  unfold chkS at h
  split at h
  · rename_i x p pos
    split at h
    · rename_i O1 b1 h1
      split at h
      · rename_i O2 h2
        split at h
        · rename_i O3 b3 h3
          split at h
          · rename_i O4 h4
            split at h
            · rename_i hc
              cases h
              rw [Bool.and_eq_true] at hc
              have pt := (good t true c X x _ O3 b3 pn C.ctx C.calls hp h3).2 rfl
              obtain ⟨tb, pb, sb⟩ := gb c X p O3 O4 pn C hp h4
              exact ⟨_, ps_while C.pass pt pb, simS_whl simT_can (getD_ok sb) (fun i hi => (interS_ok.mp (interS_ok.mp hi).1).1) (subS_ok hc.1) (subS_ok hc.2)⟩
            · cases h
          · cases h
        · cases h
      · cases h
    · cases h
  · cases h
theorem goodS_for {k : IK} {as : List IE} {tg : Tg} {b : List IS} (gb : GoodB cl N b) : GoodS cl N (.for_ k as tg b) := by
  intro c X st O Oo pn C hp h
  unfold chkS at h
  split at h
  · rename_i t iter p pos
    split at h
    · rename_i es hes
      split at h
      · rename_i O1 h1
        split at h
        · rename_i hc
          simp only [Bool.and_eq_true] at hc
          obtain ⟨⟨⟨hn, hitg⟩, hset⟩, htg⟩ := hc
          split at h
          · rename_i O2 h2
            split at h
            · rename_i O3 h3
              split at h
              · rename_i hs
                cases h
                obtain ⟨l, _, _, ts, q1, q2⟩ := goodA as c X es O O1 pn C.ctx C.calls hp h1
                obtain ⟨w, pi, nat⟩ := iter_sound (tg := t) C.ctx hes hitg q1
                rw [← l] at nat
                obtain ⟨pg, tgm⟩ := tg_sound C.ctx htg
                have hpt : ∀ p ∈ pn, p.1 ∉ tg.slots := fun p hp' z => (hp.prot p hp').elim (tgm _ z).1 (tgm _ z).2
                obtain ⟨tb, pb, sb⟩ := gb c X p _ O3 pn C hp h3
                exact ⟨_, ps_for C.pass C.ctx.calm pi pg pb fun x => folded_no hset _ _, simS_for rfl q2 hn nat (tg_sim hpt) (getD_ok sb) (fun i hi => (interS_ok.mp (mem_remL.mp hi).1).1) (subS_ok hs)⟩
              · cases h
            · cases h
          · cases h
        · cases h
      · cases h
    · cases h
  · cases h
theorem goodB_nil : GoodB cl N [] := by
  intro c X sts O Oo pn C hp h
  unfold chkB at h
  split at h
  · cases h
    exact ⟨_, pss_nil, simB_nil⟩
  · cases h
theorem goodB_cons {s : IS} {r : List IS} (gs : GoodS cl N s) (gr : GoodB cl N r) : GoodB cl N (s :: r) := by
  intro c X sts O Oo pn C hp h
  unfold chkB at h
  split at h
  · cases h
  · rename_i st sts
    split at h
    · rename_i O1 h1
      obtain ⟨t, p, sm⟩ := gs c X st O (some O1) pn C hp h1
      obtain ⟨u, p2, sm2⟩ := gr c X sts O1 Oo pn C hp h
      exact ⟨_, pss_cons p p2, simB_cons sm sm2⟩
    · rename_i h1
      cases h
      obtain ⟨t, p, sm⟩ := gs c X st O none pn C hp h1
      exact ⟨_, pss_cons p pss_never, simB_dead sm⟩
    · cases h
mutual
theorem goodS : ∀ s : IS, GoodS cl N s
  | .set tg e => goodS_set
  | .par i j a b => goodS_par
  | .sub i k e => goodS_sub
  | .app i e => goodS_app
  | .ext i e => goodS_ext
  | .ex e => goodS_ex
  | .ite t a b => goodS_ite (goodB a) (goodB b)
  | .whl t b => goodS_whl (goodB b)
  | .for_ k as tg b => goodS_for (goodB b)
  | .ret e => goodS_ret
  | .pass => goodS_pass
  | .never => goodS_never
  | .nat k => goodS_nat
  | .dnew i t => goodS_dnew
  | .dof i t e => goodS_dof
  | .dput i k e => goodS_dput
  termination_by structural s => s
theorem goodB : ∀ b : List IS, GoodB cl N b
  | [] => goodB_nil
  | s :: r => goodB_cons (goodS s) (goodB r)
  termination_by structural b => b
end
end
end Mir
/-! Mir, part Ti: the def that lists, for each place of a web, the places that it is tied to; its lists lie in a list and are changed in place. -/
namespace Mir
open PySem PySem.Spec L2

/-- all that is not known -/
noncomputable def gmax (Φ H : Hp) : Hp := fun a => match Φ a with
  | none => H a
  | some _ => none
theorem gmax_in {Φ H : Hp} {a : Addr} (h : Φ a = none) : gmax Φ H a = H a := by
  unfold gmax
  rw [h]
theorem gmax_out {Φ H : Hp} {a : Addr} {o : HO} (h : gmax Φ H a = some o) : Φ a = none ∧ H a = some o := by
  unfold gmax at h
  split at h
  · rename_i q
    exact ⟨q, h⟩
  · cases h
section
variable {K : PySem.W.Frag}
theorem gmax_grow {Φ H Φ1 H1 : Hp} {pn : List (Nat × V)} {O : List Nat} {σ : St} {ε : MEnv} (s : Same Φ H) (R : Rel K Φ1 (gmax Φ H) pn O σ ε H1) (s1 : Same Φ Φ1) : Grow Φ H Φ1 H1 := by
  refine ⟨s1, R.sub, fun a o h => ?_, fun a h => ?_⟩
  · cases q : Φ a with
    | none => exact R.gsub a o (by rw [gmax_in q]; exact h)
    | some o' =>
      have := s a o' q
      rw [h] at this
      cases this
      exact R.sub a o (s1 a o q)
  · cases q : Φ a with
    | none => exact R.gfree a (by rw [gmax_in q]; exact h)
    | some o' => exact s1 a o' q
theorem grow_trans {Φ H Φ1 H1 Φ2 H2 : Hp} (a : Grow Φ H Φ1 H1) (b : Grow Φ1 H1 Φ2 H2) : Grow Φ H Φ2 H2 :=
  ⟨a.up.trans b.up, b.sub, a.hs.trans b.hs, fun x hx => (b.old x fun z => by
    cases q : H x with
    | none => exact hx q
    | some o => rw [a.hs x o q] at z; cases z).trans (a.old x hx)⟩
/-- no slot is owned -/
theorem rel_few {Φ H : Hp} {σ : St} {ε : MEnv} (s : Same Φ H) (l : ε.length = σ.length) (h : ∀ (i : Nat) (d : D), ε[i]? = some (some d) → ∃ v, σ[i]? = some (some v) ∧ Dp K Φ v d) : Rel K Φ (gmax Φ H) [] [] σ ε H :=
  ⟨s, fun a o q => (gmax_out q).2, fun a q => by
    cases z : gmax Φ H a with
    | none => exact absurd z q
    | some o => exact (gmax_out z).1, l, fun i d _ _ e => h i d e, fun i d hi => by simp at hi, fun i j a hi => by simp at hi, fun p hp => by simp at hp, fun i d hd e => by
    obtain ⟨v, _, q⟩ := h i d e
    rw [dp_noD q] at hd
    cases hd⟩
/-- lists in a list, nobody else's; H0: the heap when all began -/
structure Nest (Φ0 H0 Φ H : Hp) (D0 : Addr) (ps : List Addr) (rows : List (List V)) : Prop where
  up : Same Φ0 Φ
  sub : Same Φ H
  hs : Same H0 H
  free : ∀ a, H0 a ≠ none → Φ0 a = none → Φ a = none
  d : H D0 = some (.lst (ps.map V.ref))
  dn : Φ D0 = none
  dh : H0 D0 = none
  len : rows.length = ps.length
  p : ∀ (k : Nat) (a : Addr), ps[k]? = some a → ∃ xs, rows[k]? = some xs ∧ H a = some (.lst xs) ∧ Φ a = none ∧ H0 a = none ∧ a ≠ D0
  nd : ps.Nodup
section
variable {Φ0 H0 Φ H : Hp} {D0 : Addr} {ps : List Addr} {rows : List (List V)}
theorem Nest.grow (n : Nest Φ0 H0 Φ H D0 ps rows) {Φ' H' : Hp} (g : Grow Φ H Φ' H') : Nest Φ0 H0 Φ' H' D0 ps rows := by
  have ne : ∀ {a o}, H a = some o → Φ' a = Φ a := fun {a o} e => g.old a fun z => by rw [e] at z; cases z
  refine ⟨n.up.trans g.up, g.sub, n.hs.trans g.hs, fun a h f => ?_, g.hs _ _ n.d, (ne n.d).trans n.dn, n.dh, n.len, fun k a h => ?_, n.nd⟩
  · cases q : H0 a with
    | none => exact absurd q h
    | some o => exact (ne (n.hs a o q)).trans (n.free a h f)
  · obtain ⟨xs, h1, h2, h3, h4, h5⟩ := n.p k a h
    exact ⟨xs, h1, g.hs _ _ h2, (ne h2).trans h3, h4, h5⟩
theorem Nest.add (n : Nest Φ0 H0 Φ H D0 ps rows) {q : Addr} (hq : H q = none) : Nest Φ0 H0 Φ (upd (upd H q (.lst [])) D0 (.lst ((ps ++ [q]).map V.ref))) D0 (ps ++ [q]) (rows ++ [[]]) := by
  have fq : Φ q = none := n.sub.free hq
  have qD : q ≠ D0 := fun z => by rw [z, n.d] at hq; cases hq
  have qps : q ∉ ps := fun z => by
    obtain ⟨k, hk⟩ := List.getElem?_of_mem z
    obtain ⟨xs, _, h2, _⟩ := n.p k q hk
    rw [hq] at h2
    cases h2
  have old : ∀ a o, H a = some o → a ≠ D0 → upd (upd H q (.lst [])) D0 (.lst ((ps ++ [q]).map V.ref)) a = some o := fun a o e h => by
    rw [upd_ne h, upd_ne (fun z => by rw [z, hq] at e; cases e)]
    exact e
  refine ⟨n.up, fun a o e => old a o (n.sub a o e) (fun z => by rw [z, n.dn] at e; cases e), fun a o e => old a o (n.hs a o e) (fun z => by rw [z, n.dh] at e; cases e), n.free, upd_same, n.dn, n.dh, by simp [n.len], fun k a h => ?_, ?_⟩
  · rw [List.getElem?_append] at h
    split at h
    · rename_i hk
      obtain ⟨xs, h1, h2, h3, h4, h5⟩ := n.p k a h
      refine ⟨xs, ?_, old a _ h2 h5, h3, h4, h5⟩
      rw [List.getElem?_append_left (by rw [n.len]; exact hk)]
      exact h1
    · rename_i hk
      have hk0 : k - ps.length = 0 := by
        rcases Nat.eq_zero_or_pos (k - ps.length) with z | z
        · exact z
        · rw [List.getElem?_eq_none (show [q].length ≤ k - ps.length from z)] at h
          cases h
      rw [hk0] at h
      cases h
      refine ⟨[], ?_, ?_, fq, ?_, qD⟩
      · rw [List.getElem?_append_right (by rw [n.len]; omega), n.len, hk0]
        rfl
      · rw [upd_ne qD, upd_same]
      · exact n.hs.free hq
  · rw [List.nodup_append]
    refine ⟨n.nd, by simp, fun a ha b hb => ?_⟩
    cases List.mem_singleton.mp hb
    exact fun z => qps (z ▸ ha)
theorem Nest.app (n : Nest Φ0 H0 Φ H D0 ps rows) {k : Nat} {q : Addr} {xs ys : List V} (hk : ps[k]? = some q) (hr : rows[k]? = some xs) : H q = some (.lst xs) ∧ Nest Φ0 H0 Φ (upd H q (.lst ys)) D0 ps (rows.set k ys) := by
  obtain ⟨xs', h1, h2, h3, h4, h5⟩ := n.p k q hk
  rw [hr] at h1
  cases h1
  refine ⟨h2, n.up, same_put n.sub h3, same_put n.hs h4, n.free, by rw [upd_ne (Ne.symm h5)]; exact n.d, n.dn, n.dh, by rw [List.length_set]; exact n.len, fun j a hj => ?_, n.nd⟩
  obtain ⟨zs, g1, g2, g3, g4, g5⟩ := n.p j a hj
  by_cases e : k = j
  · subst e
    rw [hk] at hj
    cases hj
    refine ⟨ys, ?_, upd_same, h3, h4, h5⟩
    rw [List.getElem?_set_self (List.getElem?_eq_some_iff.mp hr).1]
  · refine ⟨zs, by rw [List.getElem?_set_ne e]; exact g1, ?_, g3, g4, g5⟩
    rw [upd_ne]
    · exact g2
    · intro z
      subst z
      exact e ((List.getElem?_inj (List.getElem?_eq_some_iff.mp hk).1 n.nd).mp (hk.trans hj.symm))
/-- the places' lists as data -/
inductive RowsD (K : PySem.W.Frag) (Φ : Hp) : List (List V) → List D → Prop
  | nil : RowsD K Φ [] []
  | cons {xs : List V} {ds : List D} {rows : List (List V)} {rs : List D} : DpAll K Φ xs ds → RowsD K Φ rows rs → RowsD K Φ (xs :: rows) (.list ds :: rs)
theorem RowsD.up {Φ Ψ : Hp} (e : Same Φ Ψ) {rows : List (List V)} {rs : List D} (h : RowsD K Φ rows rs) : RowsD K Ψ rows rs := by
  induction h with
  | nil => exact .nil
  | cons h _ ih => exact .cons (dpA_up e h) ih
theorem RowsD.len {Φ : Hp} {rows : List (List V)} {rs : List D} (h : RowsD K Φ rows rs) : rows.length = rs.length := by
  induction h with
  | nil => rfl
  | cons h _ ih => exact congrArg (· + 1) ih
theorem RowsD.get {Φ : Hp} : ∀ {rows : List (List V)} {rs : List D} {k : Nat} {r : List D}, RowsD K Φ rows rs → rs[k]? = some (.list r) → ∃ xs, rows[k]? = some xs ∧ DpAll K Φ xs r
  | _, _, _, _, .nil, h => by simp at h
  | _, _, 0, _, .cons h _, e => by
    cases e
    exact ⟨_, rfl, h⟩
  | _, _, k + 1, _, .cons _ r, e => RowsD.get (k := k) r e
theorem RowsD.set {Φ : Hp} {ys : List V} {y : List D} (hy : DpAll K Φ ys y) : ∀ {rows : List (List V)} {rs : List D} (k : Nat), RowsD K Φ rows rs → RowsD K Φ (rows.set k ys) (rs.set k (.list y))
  | _, _, _, .nil => .nil
  | _, _, 0, .cons _ r => .cons hy r
  | _, _, k + 1, .cons h r => .cons h (RowsD.set hy k r)
theorem RowsD.snoc {Φ : Hp} {rows : List (List V)} {rs : List D} (h : RowsD K Φ rows rs) : RowsD K Φ (rows ++ [[]]) (rs ++ [.list []]) := by
  induction h with
  | nil => exact .cons .nil .nil
  | cons h _ ih => exact .cons h ih
/-- the lists are known from here on -/
theorem Nest.close (n : Nest Φ0 H0 Φ H D0 ps rows) {rs : List D} (r : RowsD K Φ rows rs) : ∃ Φ', Same Φ0 Φ' ∧ Same Φ' H ∧ (∀ a, H0 a ≠ none → Φ0 a = none → Φ' a = none) ∧ Dp K Φ' (.ref D0) (.list rs) := by
  refine ⟨fun a => match Φ a with | some o => some o | none => if a = D0 ∨ a ∈ ps then H a else none, fun a o e => ?_, fun a o e => ?_, fun a h f => ?_, ?_⟩
  · show (match Φ a with | some o => some o | none => _) = some o
    rw [n.up a o e]
  · have e : (match Φ a with | some o => some o | none => if a = D0 ∨ a ∈ ps then H a else none) = some o := e
    split at e
    · rename_i o' q
      cases e
      exact n.sub a _ q
    · split at e
      · exact e
      · cases e
  · show (match Φ a with | some o => some o | none => if a = D0 ∨ a ∈ ps then H a else none) = none
    rw [n.free a h f]
    have : ¬ (a = D0 ∨ a ∈ ps) := by
      rintro (z | z)
      · exact h (z ▸ n.dh)
      · obtain ⟨k, hk⟩ := List.getElem?_of_mem z
        obtain ⟨_, _, _, _, h4, _⟩ := n.p k a hk
        exact h h4
    simp only [if_neg this]
  · have up : Same Φ (fun a => match Φ a with | some o => some o | none => if a = D0 ∨ a ∈ ps then H a else none) := fun a o e => by
      show (match Φ a with | some o => some o | none => _) = some o
      rw [e]
    refine .lst (xs := ps.map V.ref) (.inl (.inl ?_)) ?_
    · show (match Φ D0 with | some o => some o | none => if D0 = D0 ∨ D0 ∈ ps then H D0 else none) = _
      rw [n.dn]
      simp only [true_or, if_true]
      exact n.d
    · have key : ∀ (qs : List Addr) (rw : List (List V)) (rs : List D), (∀ q ∈ qs, q ∈ ps) → rw.length = qs.length → (∀ (k : Nat) (a : Addr), qs[k]? = some a → ∃ xs, rw[k]? = some xs ∧ H a = some (.lst xs) ∧ Φ a = none) → RowsD K Φ rw rs → DpAll K (fun a => match Φ a with | some o => some o | none => if a = D0 ∨ a ∈ ps then H a else none) (qs.map V.ref) rs := by
        intro qs
        induction qs with
        | nil =>
          intro rw rs _ l _ r
          cases r with
          | nil => exact .nil
          | cons _ _ => cases l
        | cons q qs ih =>
          intro rw rs hm l hg r
          cases r with
          | nil => cases l
          | cons h r =>
            obtain ⟨xs, g1, g2, g3⟩ := hg 0 q rfl
            cases g1
            refine .cons (.lst (.inl (.inl ?_)) (dpA_up up h)) (ih _ _ (fun x hx => hm x (List.mem_cons_of_mem _ hx)) (Nat.succ.inj l) (fun k a hk => hg (k + 1) a hk) r)
            show (match Φ q with | some o => some o | none => if q = D0 ∨ q ∈ ps then H q else none) = _
            rw [g3]
            simp only [hm q List.mem_cons_self, or_true, if_true]
            exact g2
      refine key ps rows rs (fun _ h => h) n.len (fun k a hk => ?_) r
      obtain ⟨xs, h1, h2, h3, _⟩ := n.p k a hk
      exact ⟨xs, h1, h2, h3⟩
end
end

/-! ### the def's text -/
def isApp2 (c : Cfg) (f i j : Nat) : Stmt → Bool
  | .Expr (.Call (.Attribute (.Subscript (.Name x _) (.Name y _) _) m apos) [.Name z _] [] cpos) _ => slotIs c f x && slotIs c i y && slotIs c j z && decide (m = "append") && (apos.endLine == cpos.line)
  | _ => false
/-- found = [[] for place in range(web[0])]; for i, j in web[1]: found[i].append(j); found[j].append(i); return found -/
def tiesOk (c : Cfg) (body : List Stmt) : Bool := match body with
  | [.Assign [.Name f1 p1] (.ListComp (.List [] pl) [⟨tg1, iter1, [], 0⟩] scope plc) spos, .For tg2 iter2 [s1, s2] [] fpos, .Return (some (.Name f4 p4)) rpos] =>
    (match iterArgs c .rng iter1 with
    | some es1 => decide (chkA c [.p .idx [.o 0, .c (.int 0)]] es1 [] = some []) && itTg .rng tg1 && notSet iter1 && blkC c.N c.sc scope (tgOwn c (.nm 2)) && tgIs (blkCfg c scope) (.nm 2) tg1 && swapB c (.Name f1 p1) (.ListComp (.List [] pl) [⟨tg1, iter1, [], 0⟩] scope plc) && locIs c 1 f1
    | none => false) && decide (chkA c [.p .idx [.o 0, .c (.int 1)]] [iter2] [] = some []) && notSet iter2 && tgIs c (.tp [3, 4]) tg2 && isApp2 c 1 3 4 s1 && isApp2 c 1 4 3 s2 && slotIs c 1 f4 && decide (c.N.length = 5) && decide (c.muts = []) && decide (c.dsl = [])
  | _ => false
section
variable {cl : Cl}
theorem app2_ok {c : Cfg} {X : Cx} (C : StX c X cl) {f i j : Nat} {st : Stmt} (h : isApp2 c f i j st = true) : PS X st (tDrop (tBM X.K "list" rAppend (tOp (rIxL X.K) (tVar f) (tVar i)) (tL [tVar j]))) := by
  unfold isApp2 at h
  split at h
  · rename_i x px y py p0 m apos z pz cpos pos
    simp only [Bool.and_eq_true, decide_eq_true_iff] at h
    obtain ⟨⟨⟨⟨h1, h2⟩, h3⟩, rfl⟩, h5⟩ := h
    have hs : starEach [.Name z pz] X.env = (false, eval (.Name z pz) X.env) :: starEach [] X.env := rfl
    exact ps_expr (pe_bm PySem.F.plainAttrs_list PySem.F.slot_list_append PySem.F.type_list_append mt_append (pe_ix ix_list (C.ctx.var h1) (C.ctx.var h2) (plainIx_ok rfl)) (PEs.cons (C.ctx.var h3) rfl PEs.nil).pa (hbase := base_no rfl _ X.env _) (hfew := by rw [hs]; rfl) (hline := h5) (hs := hs) (hplain := rfl)) rfl
  · cases h
theorem if_ok {p q : Prop} (h : p) : if true = true then p else q := by
  rw [if_pos rfl]
  exact h
theorem atI_nat {α : Type} {xs : List α} {i : Int} {x : α} (h0 : 0 ≤ i) (h : xs[i.toNat]? = some x) : atI xs i = some x := by
  have hl := (List.getElem?_eq_some_iff.mp h).1
  unfold atI ixN
  rw [if_pos h0, if_pos (by omega)]
  exact h
/-- found[i].append(j) -/
theorem app2_run {K : PySem.W.Frag} {Φ0 H0 Φ H : Hp} {D0 : Addr} {ps : List Addr} {rows : List (List V)} {rs rs' : List D} {f i j : Nat} {a b : Int} {σ : St} {E : Ends} (n : Nest Φ0 H0 Φ H D0 ps rows) (r : RowsD K Φ rows rs) (h1 : σ[f]? = some (some (.ref D0))) (h2 : σ[i]? = some (some (.int a))) (h3 : σ[j]? = some (some (.int b)))
    (e : addD rs a (.int b) = some rs') (q : ∀ H' rows', Nest Φ0 H0 Φ H' D0 ps rows' → RowsD K Φ rows' rs' → E.nx σ H') : tDrop (tBM K "list" rAppend (tOp (rIxL K) (tVar f) (tVar i)) (tL [tVar j])) E σ H := by
  unfold addD at e
  split at e
  · rename_i ha
    split at e
    · rename_i r0 hr0
      split at e
      · rename_i hl
        cases e
        obtain ⟨xs, hx, dx⟩ := r.get hr0
        have hk : a.toNat < ps.length := by
          rw [← n.len]
          exact (List.getElem?_eq_some_iff.mp hx).1
        have hp : ps[a.toNat]? = some ps[a.toNat] := List.getElem?_eq_getElem hk
        obtain ⟨hq, n'⟩ := n.app (ys := xs ++ [.int b]) hp hx
        refine ⟨.ref D0, h1, .int a, h2, D0, ps.map V.ref, a, .ref ps[a.toNat], rfl, rfl, .inl (.inl n.d), atI_nat ha (by rw [List.getElem?_map, hp]; rfl), .inl ⟨rfl, xs, .inl (.inl hq)⟩, .int b, h3, ps[a.toNat], xs, .int b, rfl, rfl, hq, ?_, ?_⟩
        · have := dpA_len dx
          have : sizeLine = 2 ^ 24 := rfl
          omega
        · exact q _ _ n' (r.set (dpA_app dx (.cons (.int b) .nil)) _)
      · cases e
    · cases e
  · cases e
theorem ties_body {c : Cfg} {X : Cx} (C : StX c X cl) {body : List Stmt} (hok : tiesOk c body = true) {Φ H : Hp} {v0 : V} {w r : D} (s : Same Φ H) (hD : Dp X.K Φ v0 w) (e : tiesD w = .ok r) {Q : VK} {nx : St → Hp → Prop}
    (q : ∀ v Φ' H', Same Φ Φ' → Same Φ' H' → Same H H' → (∀ a, H a ≠ none → Φ a = none → Φ' a = none) → Dp X.K Φ' v r → Q v H') : ∃ t, PSs X body t ∧ t { nx := nx, rt := Q } (L2.start X.N [v0]) H := by
  unfold tiesOk at hok
  split at hok
  · rename_i f1 p1 pl tg1 iter1 scope plc spos tg2 iter2 s1 s2 fpos f4 p4 rpos
    simp only [Bool.and_eq_true, decide_eq_true_iff] at hok
    obtain ⟨⟨⟨⟨⟨⟨⟨⟨⟨h1, h2⟩, h3⟩, h4⟩, h5⟩, h6⟩, h7⟩, h8⟩, h9⟩, h10⟩ := hok
    split at h1
    · rename_i es1 hes1
      simp only [Bool.and_eq_true, decide_eq_true_iff] at h1
      obtain ⟨⟨⟨⟨⟨⟨g1, g2⟩, g3⟩, g4⟩, g5⟩, g6⟩, g7⟩ := h1
      have hp : PnOk c [] := ⟨fun p hp => by simp at hp, fun i hi => by simp at hi, fun i hi => by rw [h10] at hi; simp at hi, fun p hp => by simp at hp⟩
      have C0 := C.ctx
      -- the pieces
      obtain ⟨l1, _, _, ts1, pe1, sm1⟩ := goodA (cl := cl) [.p .idx [.o 0, .c (.int 0)]] c X es1 [] [] [] C0 C.calls hp g1
      obtain ⟨w1, pi1, nat1⟩ := iter_sound (tg := tg1) C0 hes1 g2 pe1
      rw [← l1] at nat1
      obtain ⟨_, _, _, ts2, pe2, sm2⟩ := goodA (cl := cl) [.p .idx [.o 0, .c (.int 1)]] c X [iter2] [] [] [] C0 C.calls hp h2
      obtain ⟨w2, pi2, nat2⟩ := iter_sound (tg := tg2) (k := .seq) C0 rfl rfl pe2
      have tgs := fun s H A cs fp => tg_sound (C0.blk scope s H A cs fp) g5
      obtain ⟨pg2, _⟩ := tg_sound C0 h4
      have g6' : (decide (c.sc.names.lookup f1 = some .local) && (p1.line == plc.line) && !(scope.names.any fun (n, k) => n == f1 && (k == .local || k == .cell))) = true := g6
      simp only [Bool.and_eq_true, decide_eq_true_iff, Bool.not_eq_true'] at g6'
      obtain ⟨⟨hl, hln⟩, han⟩ := g6'
      have hyl : X.env.scope.names.lookup f1 = some .local := by rw [C0.sc]; exact hl
      have hN : X.N[1]? = some f1 := by
        unfold locIs at g7
        rw [Bool.and_eq_true, decide_eq_true_iff] at g7
        rw [C0.N]
        exact g7.1
      have hNn : X.N.Nodup := by rw [C0.N]; exact C0.nd
      have S1 := ps_setLc (spos := spos) C0.calm hNn hN hyl (sw_true C.kind hyl hln han) pi1 (by rw [C0.N, C0.sc]; exact blkOk_by g4) (fun s H A cs fp => (tgs s H A cs fp).1) (fun s H A cs fp => pts_nil) (fun s H A cs fp => pe_lst (pos := pl) pa_nil) fun x => folded_no g3 _ _
      have S2 := ps_for (pos := fpos) C.pass C0.calm pi2 pg2 (pss_cons (app2_ok C h5) (pss_cons (app2_ok C h6) pss_nil)) fun x => folded_no h3 _ _
      have S3 := ps_ret (pos := rpos) (C0.var (pos := p4) h7)
      refine ⟨_, pss_cons S1 (pss_cons S2 (pss_cons S3 pss_nil)), ?_⟩
      clear S1 S2 S3
      -- the run
      unfold tiesD at e
      split at e
      · rename_i n ts
        split at e
        · rename_i hn
          obtain ⟨rs, er, e⟩ := Res.bind_eq_ok.mp e
          cases e
          have hσ : L2.start X.N [v0] = [some v0, none, none, none, none] := by
            unfold L2.start
            rw [C0.N, h8]
            rfl
          rw [hσ]
          have rel0 : ∀ {Φ H : Hp} {σ : St}, Same Φ H → σ.length = 5 → σ[0]? = some (some v0) → Dp X.K Φ v0 (.tuple [.int n, .tuple ts]) → Rel X.K Φ (gmax Φ H) [] [] σ [some (.tuple [.int n, .tuple ts]), none, none, none, none] H := fun {Φ H σ} s l h d => rel_few s (by rw [l]; rfl) fun i x hx => by
            match i, hx with
            | 0, hx =>
              cases hx
              exact ⟨v0, h, d⟩
            | 1, hx => cases hx
            | 2, hx => cases hx
            | 3, hx => cases hx
            | 4, hx => cases hx
            | i + 5, hx => simp at hx
          have hev1 : evA cl [.p .idx [.o 0, .c (.int 0)]] [some (.tuple [.int n, .tuple ts]), none, none, none, none] = .ok ([.val (.int n)], [some (.tuple [.int n, .tuple ts]), none, none, none, none]) := rfl
          have hev2 : evA cl [.p .idx [.o 0, .c (.int 1)]] [some (.tuple [.int n, .tuple ts]), none, none, none, none] = .ok ([.val (.tuple ts)], [some (.tuple [.int n, .tuple ts]), none, none, none, none]) := rfl
          refine sm1 Φ (gmax Φ H) _ _ _ H _ _ (rel0 s rfl rfl hD) hev1 fun Φ1 H1 vs R1 s1 ov => ?_
          have gr1 := gmax_grow s R1 s1
          refine nat1 vs H1 _ (by rw [ov.len]; rfl) ⟨Φ1, [.int n], upFrom 0 n.toNat, R1.sub, ov.vals (ε := []) (evA_vals hev1 rfl) rfl, ?_, fun J Φ2 H2 gr it => ?_⟩
          · show ((Res.guard (rngOk n)) >>= fun _ => .ok (upFrom 0 n.toNat)) = _
            rw [show rngOk n = true by unfold rngOk; simp; omega]
            rfl
          intro D0 nD
          have gr2 := grow_trans gr1 gr
          have len0 : (upFrom 0 n.toNat).length = n.toNat := upFrom_len ..
          have nest0 : Nest Φ H Φ2 (upd H2 D0 (.lst [])) D0 [] [] := ⟨gr2.up, same_put gr2.sub (gr2.sub.free nD), fun a o h => by
            have := gr2.hs a o h
            rw [upd_ne (fun z => by rw [z, nD] at this; cases this)]
            exact this, fun a h f => (gr2.old a h).trans f, upd_same, gr2.sub.free nD, gr2.hs.free nD, rfl, fun k a h => by simp at h, List.nodup_nil⟩
          refine ⟨fun i m Hw => m = n.toNat - i ∧ i ≤ n.toNat ∧ ∃ Φw ps rows, Same Φ2 Φw ∧ Nest Φ H Φw Hw D0 ps rows ∧ RowsD X.K Φw rows (List.replicate i (.list [])), ⟨n.toNat, rfl, Nat.zero_le _, Φ2, [], [], Same.refl _, nest0, .nil⟩, ?_⟩
          rintro i m Hw ⟨rfl, hi, Φw, ps, rows, sw, nw, rw0⟩
          by_cases hlt : i < n.toNat
          · right
            refine ⟨it.go i Hw (sw.trans nw.sub) (by rw [len0]; exact hlt), fun H' => ∃ Φw ps rows, Same Φ2 Φw ∧ Nest Φ H Φw H' D0 ps rows ∧ RowsD X.K Φw rows (List.replicate (i + 1) (.list [])), fun H' hN => ⟨n.toNat - (i + 1), by omega, rfl, hlt, hN⟩, fun x H' hy => ?_⟩
            obtain ⟨Φ4, g4, dx, ex, px⟩ := it.yld i Hw Φw x H' sw nw.sub hy (by rw [len0]; exact hlt)
            have n4 := nw.grow g4
            refine ⟨?_, ?_⟩
            · show wipe ((wipe [some v0, none, none, none, none] [2]).set 2 (some x)) [2] = wipe [some v0, none, none, none, none] [2]
              rfl
            · unfold tYes
              simp only [if_true]
              refine ⟨Nat.zero_le _, fun p np => ?_⟩
              have pD : D0 ≠ p := fun z => by rw [← z, n4.d] at np; cases np
              refine ⟨ps.map V.ref, by rw [upd_ne pD]; exact n4.d, ?_, Φ4, ps ++ [p], rows ++ [[]], sw.trans g4.up, ?_, ?_⟩
              · have l1 := rw0.len
                have l2 := nw.len
                rw [List.length_replicate] at l1
                rw [List.length_map]
                have : sizeLine = 2 ^ 24 := rfl
                omega
              · have := n4.add np
                rw [List.map_append] at this
                exact this
              · have := (rw0.up g4.up).snoc
                rw [show List.replicate (i + 1) (PyData.list []) = List.replicate i (PyData.list []) ++ [PyData.list []] from List.replicate_succ']
                exact this
          · left
            have ei : i = n.toNat := by omega
            subst ei
            refine ⟨it.stop _ Hw (sw.trans nw.sub) len0, ?_⟩
            have hD2 : Dp X.K Φw v0 (.tuple [.int n, .tuple ts]) := dp_up nw.up hD
            refine sm2 Φw (gmax Φw Hw) _ _ _ Hw _ _ (rel0 nw.sub rfl rfl hD2) hev2 fun Φ5 H5 vs5 R5 s5 ov5 => ?_
            have g5' := gmax_grow nw.sub R5 s5
            refine nat2 vs5 H5 _ (by rw [ov5.len]; rfl) ⟨Φ5, [.tuple ts], ts, R5.sub, ov5.vals (ε := []) (evA_vals hev2 rfl) rfl, rfl, fun J Φ6 H6 gr6 it6 => ?_⟩
            have n6 := nw.grow (grow_trans g5' gr6)
            have r6 := rw0.up (g5'.up.trans gr6.up)
            refine ⟨fun i m σw Hv => m = ts.length - i ∧ i ≤ ts.length ∧ ∃ Φv rows rsv, Same Φ6 Φv ∧ Nest Φ H Φv Hv D0 ps rows ∧ RowsD X.K Φv rows rsv ∧ tiesL rsv (ts.drop i) = .ok rs ∧ σw.length = 5 ∧ σw[0]? = some (some v0) ∧ σw[1]? = some (some (.ref D0)), ⟨ts.length, rfl, Nat.zero_le _, Φ6, rows, _, Same.refl _, n6, r6, er, rfl, rfl, rfl⟩, ?_⟩
            rintro i m σw Hv ⟨rfl, hi2, Φv, rowsv, rsv, sv, nv, rv, ev, l5, z0, z1⟩
            by_cases hlt2 : i < ts.length
            · right
              refine ⟨it6.go i Hv (sv.trans nv.sub) hlt2, fun σ' H' => ∃ Φv rows rsv, Same Φ6 Φv ∧ Nest Φ H Φv H' D0 ps rows ∧ RowsD X.K Φv rows rsv ∧ tiesL rsv (ts.drop (i + 1)) = .ok rs ∧ σ'.length = 5 ∧ σ'[0]? = some (some v0) ∧ σ'[1]? = some (some (.ref D0)), fun σ' H' hN => ⟨ts.length - (i + 1), by omega, rfl, hlt2, hN⟩, fun x H' hy => ?_⟩
              obtain ⟨Φ7, g7', dx, ex, px⟩ := it6.yld i Hv Φv x H' sv nv.sub hy hlt2
              have n7 := nv.grow g7'
              have r7 := rv.up g7'.up
              have hdr : ts.drop i = dx :: ts.drop (i + 1) := by
                obtain ⟨hi', e'⟩ := List.getElem?_eq_some_iff.mp ex
                rw [List.drop_eq_getElem_cons hi', e']
              rw [hdr] at ev
              unfold tiesL at ev
              split at ev
              · rename_i r1 ht
                unfold tieD at ht
                split at ht
                · rename_i a b
                  obtain ⟨r2, e2, e3⟩ := Option.bind_eq_some_iff.mp ht
                  refine tg_sim (pn := []) (tg := .tp [3, 4]) (fun p hp => by simp at hp) [] Φ7 (gmax Φ7 H') σw _ [some (.tuple [.int n, .tuple ts]), none, none, some (.int a), some (.int b)] H' x _ _ (rel0 n7.sub l5 z0 (dp_up n7.up hD)) px rfl fun σ2 R2 l2 o2 => ?_
                  have z0' : σ2[0]? = some (some v0) := (o2 0 (by decide)).trans z0
                  have z1' : σ2[1]? = some (some (.ref D0)) := (o2 1 (by decide)).trans z1
                  have z3 : σ2[3]? = some (some (.int a)) := by
                    obtain ⟨v, h1, h2⟩ := R2.sh 3 (.int a) (by simp [remL]) rfl rfl
                    cases h2
                    exact h1
                  have z4 : σ2[4]? = some (some (.int b)) := by
                    obtain ⟨v, h1, h2⟩ := R2.sh 4 (.int b) (by simp [remL]) rfl rfl
                    cases h2
                    exact h1
                  refine app2_run n7 r7 z1' z3 z4 e2 fun H8 rows8 n8 r8 => ?_
                  refine app2_run n8 r8 z1' z4 z3 e3 fun H9 rows9 n9 r9 => ?_
                  exact ⟨Φ7, rows9, r1, sv.trans g7'.up, n9, r9, ev, by rw [l2]; exact l5, z0', z1'⟩
                · cases ht
              · cases ev
            · left
              have ei2 : i = ts.length := by omega
              subst ei2
              rw [List.drop_length] at ev
              cases ev
              refine ⟨it6.stop _ Hv (sv.trans nv.sub) rfl, ?_⟩
              obtain ⟨Φ', c1, c2, c3, c4⟩ := nv.close rv
              exact ⟨.ref D0, z1, q _ Φ' Hv c1 c2 nv.hs c3 c4⟩
        · cases e
      · cases e
    · cases h1
  · cases hok
end
end Mir
/-! Mir, part U: a whole table of defs keeps its promises. -/
namespace Mir
open PySem PySem.Spec L2
open PyProof.Rows (envOfC)

/-! ### the entry of a def -/
section
variable {K : PySem.W.Frag} {Φ H : Hp} {muts dsl : List Nat} {vs : List V} {ds : List D}
def pinsOf (muts dsl : List Nat) (vs : List V) : List (Nat × V) := (muts.filterMap fun j => (vs[j]?).map fun v => (j, v)) ++ dsl.map fun i => (i, dTag)
theorem pinsOf_mem {p : Nat × V} (h : p ∈ pinsOf muts dsl vs) : (p.1 ∈ muts ∧ vs[p.1]? = some p.2) ∨ (p.1 ∈ dsl ∧ p.2 = dTag) := by
  unfold pinsOf at h
  rcases List.mem_append.mp h with h | h
  · obtain ⟨j, hj, e⟩ := List.mem_filterMap.mp h
    cases q : vs[j]? with
    | none => rw [q] at e; cases e
    | some v => rw [q] at e; cases e; exact .inl ⟨hj, q⟩
  · obtain ⟨i, hi, rfl⟩ := List.mem_map.mp h
    exact .inr ⟨hi, rfl⟩
theorem pinsOf_in {j : Nat} {v : V} (hj : j ∈ muts) (h : vs[j]? = some v) : (j, v) ∈ pinsOf muts dsl vs :=
  List.mem_append_left _ (List.mem_filterMap.mpr ⟨j, hj, by rw [h]; rfl⟩)
theorem pinsOf_tag {j : Nat} (hj : j ∈ dsl) : (j, dTag) ∈ pinsOf muts dsl vs := List.mem_append_right _ (List.mem_map.mpr ⟨j, hj, rfl⟩)
theorem pins_ok (a : ArgsOk K Φ H muts dsl vs ds) {c : Cfg} (h1 : c.muts = muts) (h2 : c.dsl = dsl) : PnOk c (pinsOf muts dsl vs) := by
  subst h1 h2
  have no : ∀ p, p ∈ pinsOf c.muts c.dsl vs → p.1 ∈ c.muts → vs[p.1]? = some p.2 → p.2 ≠ dTag := fun p _ hj e z => by
    obtain ⟨b, d, e1, _⟩ := a.ow p.1 hj
    rw [e] at e1
    have e1 := Option.some.inj e1
    rw [z] at e1
    cases e1
  refine ⟨fun p hp => ?_, fun i hi => ?_, fun i hi => pinsOf_tag hi, fun p hp n => ?_⟩
  · rcases pinsOf_mem hp with z | z
    · exact .inl z.1
    · exact .inr z.1
  · rcases pinsOf_mem hi with z | z
    · exact absurd rfl (no _ hi z.1 z.2)
    · exact z.1
  · rcases pinsOf_mem hp with z | z
    · exact z.1
    · exact absurd z.2 n
open Classical in
/-- what is tracked and neither known nor lent -/
noncomputable def foreign (Φ H : Hp) (muts : List Nat) (vs : List V) : Hp := fun a => if Φ a = none ∧ ¬ MutA muts vs a then H a else none
theorem foreign_in {a : Addr} (h1 : Φ a = none) (h2 : ¬ MutA muts vs a) : foreign Φ H muts vs a = H a := if_pos ⟨h1, h2⟩
theorem foreign_out {a : Addr} {o : HO} (h : foreign Φ H muts vs a = some o) : Φ a = none ∧ ¬ MutA muts vs a ∧ H a = some o := by
  unfold foreign at h
  split at h
  · rename_i q
    exact ⟨q.1, q.2, h⟩
  · cases h
theorem pre_get {α : Type} {l : List α} {m : Nat} {i : Nat} {x : α} : (l.map some ++ List.replicate m none)[i]? = some (some x) ↔ l[i]? = some x := by
  rw [List.getElem?_append]
  split
  · rw [List.getElem?_map]
    cases l[i]? with
    | none => simp
    | some y => simp
  · rename_i h
    rw [List.length_map] at h
    rw [List.getElem?_replicate, List.getElem?_eq_none (by omega)]
    split <;> simp
theorem rel_start {N : List Str} (s : Same Φ H) (a : ArgsOk K Φ H muts dsl vs ds) : Rel K Φ (foreign Φ H muts vs) (pinsOf muts dsl vs) muts (L2.start N vs) (ds.map some ++ List.replicate (N.length - ds.length) none) H := by
  have shr : ∀ i d, i ∉ muts → ds[i]? = some d → ∃ v, vs[i]? = some v ∧ Dp K Φ v d := fun i d hi e => by
    have hl : i < vs.length := by
      rw [a.len]
      exact (List.getElem?_eq_some_iff.mp e).1
    exact ⟨vs[i], List.getElem?_eq_getElem hl, a.sh i _ d hi (List.getElem?_eq_getElem hl) e⟩
  refine ⟨s, fun b o h => (foreign_out h).2.2, fun b h => ?_, ?_, fun i d hi nd e => ?_, fun i d hi e => ?_, fun i j b hi hj ne _ _ e1 e2 => ?_, fun p hp nt => ?_, fun i d hd e => ?_⟩
  · cases q : foreign Φ H muts vs b with
    | none => exact absurd q h
    | some o => exact (foreign_out q).1
  · unfold L2.start
    rw [List.length_append, List.length_append, List.length_map, List.length_map, List.length_replicate, List.length_replicate, a.len]
  · obtain ⟨v, e1, e2⟩ := shr i d hi (pre_get.mp e)
    exact ⟨v, pre_get.mpr e1, e2⟩
  · have e := pre_get.mp e
    obtain ⟨b, es, h1, h2, h3, h4, h5⟩ := a.ow i hi
    rw [e] at h2
    cases h2
    exact ⟨.ref b, pre_get.mpr h1, .of rfl h3 (by
      cases q : foreign Φ H muts vs b with
      | none => rfl
      | some o => exact absurd ⟨i, hi, h1⟩ (foreign_out q).2.1) h4⟩
  · exact a.inj i hi j hj ne b (pre_get.mp e1) (pre_get.mp e2)
  · rcases pinsOf_mem hp with z | z
    · exact pre_get.mpr z.2
    · exact absurd z.2 nt
  · have e := pre_get.mp e
    by_cases hi : i ∈ muts
    · obtain ⟨b, es, h1, h2, h3, h4, h5⟩ := a.ow i hi
      rw [e] at h2
      cases h2
      exact pinsOf_tag (h5 hd)
    · obtain ⟨v, e1, e2⟩ := shr i d hi e
      rw [dp_noD e2] at hd
      cases hd
theorem lookAll_ok : ∀ {is : List Nat} {ε : MEnv} {ws : List D}, lookAll ε is = .ok ws → ∀ (k j : Nat), is[k]? = some j → ∃ w, ws[k]? = some w ∧ ε[j]? = some (some w)
  | [], _, _, _, k, j, h => by simp at h
  | i :: is, ε, ws, e, k, j, h => by
    obtain ⟨d, h1, e1⟩ := Res.bind_eq_ok.mp e
    obtain ⟨us, h2, e2⟩ := Res.bind_eq_ok.mp e1
    cases e2
    cases k with
    | zero =>
      have z := Option.some.inj h
      subst z
      exact ⟨d, rfl, look_ok h1⟩
    | succ k => exact lookAll_ok h2 k j h
theorem rel_end {Φ' H' : Hp} {σ' : St} {ε' : MEnv} {ws : List D} {fr : Bool} {v : V} {r : D} (s : Same Φ H) (a : ArgsOk K Φ H muts dsl vs ds) (R : Rel K Φ' (foreign Φ H muts vs) (pinsOf muts dsl vs) muts σ' ε' H') (up : Same Φ Φ')
    (hw : lookAll ε' muts = .ok ws) (hl : ∀ w ∈ ws, isLd w = true) (o : Out K Φ' (foreign Φ H muts vs) muts σ' ε' H' fr v r) : EndOk K Φ H Φ' H' muts dsl vs ws fr v r := by
  have pk := pins_ok a (c := ⟨[], default, [], [], muts, false, false, dsl, []⟩) rfl rfl
  have own : ∀ (k j : Nat), muts[k]? = some j → ∃ (b : Addr) (es : D), vs[j]? = some (V.ref b) ∧ ws[k]? = some es ∧ isLd es = true ∧ σ'[j]? = some (some (V.ref b)) ∧ ε'[j]? = some (some es) ∧ Φ' b = none ∧ Held K Φ' H' b es := by
    intro k j hk
    obtain ⟨w, h1, h2⟩ := lookAll_ok hw k j hk
    have hj : j ∈ muts := List.mem_of_getElem? hk
    obtain ⟨b, _, h3, _, _, _, _⟩ := a.ow j hj
    have h4 := R.pin _ (pinsOf_in (dsl := dsl) hj h3) (fun z => by cases z)
    have h5 := hl w (List.mem_of_getElem? h1)
    obtain ⟨u, h6, ow⟩ := R.ow j _ hj h2
    obtain ⟨b', rfl, h7, h8, h9⟩ := ow.own h5
    rw [h4] at h6
    cases h6
    exact ⟨b, w, h3, h1, h5, h4, h2, h7, h9⟩
  have ownM : ∀ b, MutA muts vs b → Φ' b = none ∧ ∃ j ∈ muts, IsL ε' j ∧ σ'[j]? = some (some (.ref b)) := by
    rintro b ⟨j, hj, e⟩
    obtain ⟨k, hk⟩ := List.getElem?_of_mem hj
    obtain ⟨b', es, h1, h2, h3, h4, h5, h6, h7⟩ := own k j hk
    rw [e] at h1
    cases h1
    exact ⟨h6, j, hj, ⟨es, h5, h3⟩, h4⟩
  refine ⟨up, R.sub, fun b x hb nm => ?_, fun b hb fb => ?_, fun k j hk => ?_, ?_⟩
  · cases q : Φ b with
    | none => exact R.gsub b x (by rw [foreign_in q nm]; exact hb)
    | some y =>
      have z := s b y q
      rw [hb] at z
      cases z
      exact R.sub b x (up b x q)
  · by_cases nm : MutA muts vs b
    · exact (ownM b nm).1
    · exact R.gfree b (by rw [foreign_in fb nm]; exact hb)
  · obtain ⟨b, es, h1, h2, h3, h4, h5, h6, h7⟩ := own k j hk
    exact ⟨b, es, h1, h2, h7, fun z => pk.tag j (R.tag j es z h5)⟩
  · cases fr with
    | false => exact o.dp
    | true =>
      cases r with
      | list rs =>
        obtain ⟨p, us, rfl, h1, h2, h3, h4, h5⟩ := o
        refine ⟨p, us, rfl, ?_, h1, h2, h5⟩
        cases q : H p with
        | none => rfl
        | some x =>
          exfalso
          by_cases nm : MutA muts vs p
          · obtain ⟨_, j, hj, il, sj⟩ := ownM p nm
            exact h4 j hj il sj
          · cases q2 : Φ p with
            | some y => rw [up p y q2] at h2; cases h2
            | none => rw [foreign_in q2 nm, q] at h3; cases h3
      | _ => exact o
end

/-! ### a def -/
def endSub (muts : List Nat) : Option (List Nat) → Bool
  | none => true
  | some O => subS muts O
def isNat : List IS → Bool
  | [.nat 0] => true
  | _ => false
/-- a def that is told by itself -/
def natOk (c : Cfg) (fd : FDef) (fs : FSig) (body : List Stmt) : Bool :=
  decide (fs.muts = []) && decide (fs.dsl = []) && decide (fs.fresh = false) && decide (fd.np = 1) && decide (fs.ps.length = 1) && decide (fd.ns = 5) && decide (fd.muts = []) && tiesOk c body
def irOk (c : Cfg) (fd : FDef) (fs : FSig) (body : List Stmt) : Bool :=
  decide (c.muts = fs.muts) && decide (c.dsl = fs.dsl) && decide (c.fresh = fs.fresh) && c.top && decide (fd.np = fs.ps.length) && decide (fd.ns = c.N.length) && decide (fd.muts = fs.muts) &&
  (match chkB c fd.body body fs.muts with
    | some Oo => endSub fs.muts Oo
    | none => false)
def defOk (c : Cfg) (fd : FDef) (fs : FSig) (body : List Stmt) : Bool := if isNat fd.body = true then natOk c fd fs body else irOk c fd fs body
theorem runF_ok {cl : Cl} {N : Nat} {fd : FDef} {ds : List D} {r : D} {ws : List D} (h : runF cl N fd ds = .ok (r, ws)) : ds.length = fd.np ∧ ∃ fl, evB cl N fd.body (ds.map some ++ List.replicate (fd.ns - fd.np) none) = .ok fl ∧
    ((∃ ε, fl = .rt r ε ∧ lookAll ε fd.muts = .ok ws) ∨ ∃ ε, fl = .nx ε ∧ r = .none ∧ lookAll ε fd.muts = .ok ws) := by
  obtain ⟨h1, e1⟩ := guard_bind h
  obtain ⟨fl, h2, e2⟩ := Res.bind_eq_ok.mp e1
  refine ⟨of_decide_eq_true h1, fl, h2, ?_⟩
  cases fl with
  | rt d ε =>
    obtain ⟨us, h3, e3⟩ := Res.bind_eq_ok.mp e2
    cases e3
    exact .inl ⟨ε, rfl, h3⟩
  | nx ε =>
    obtain ⟨us, h3, e3⟩ := Res.bind_eq_ok.mp e2
    cases e3
    exact .inr ⟨ε, rfl, rfl, h3⟩
theorem isNat_ok {b : List IS} (h : isNat b = true) : b = [.nat 0] := by
  unfold isNat at h
  split at h
  · rfl
  · cases h
theorem nat_body {X : Cx} {c : Cfg} {M f : Nat} {fd : FDef} {fs : FSig} {body : List Stmt} {vs : List V} {H : Hp} {Q : VK} {E : XK} {T : List FDef} {n : Nat} (C : StX c X (callF T M n)) (hf : T[f]? = some fd) (hn : isNat fd.body = true) (h : natOk c fd fs body = true)
    (sp : spOf X.K (callF T M (n + 1)) f fs vs H Q E) : ∃ t, PSs X body t ∧ t { nx := fun _ H' => Q .non H', rt := Q } (L2.start X.N vs) H := by
  unfold natOk at h
  simp only [Bool.and_eq_true, decide_eq_true_iff] at h
  obtain ⟨⟨⟨⟨⟨⟨⟨h1, h2⟩, h3⟩, h4⟩, h5⟩, h6⟩, h7⟩, h8⟩ := h
  obtain ⟨Φ, ds, r, ws, s, lv, a, ec, lw, il, q⟩ := sp
  have ec : (match T[f]? with | some fd => runF (callF T M n) M fd ds | none => .bad) = .ok (r, ws) := ec
  rw [hf] at ec
  obtain ⟨l, fl, e, ends⟩ := runF_ok ec
  rw [isNat_ok hn] at e
  rw [h4] at l
  rw [h5] at lv
  obtain ⟨v0, rfl⟩ : ∃ v0, vs = [v0] := by
    match vs, lv with
    | [v0], _ => exact ⟨v0, rfl⟩
  obtain ⟨w, rfl⟩ : ∃ w, ds = [w] := by
    match ds, l with
    | [w], _ => exact ⟨w, rfl⟩
  obtain ⟨fl1, e1, e2⟩ := Res.bind_eq_ok.mp e
  obtain ⟨w', e3, e4⟩ := Res.bind_eq_ok.mp e1
  cases e3
  obtain ⟨d, e5, e6⟩ := Res.bind_eq_ok.mp e4
  cases e6
  cases e2
  rw [h7] at ends
  have hws : r = d ∧ ws = [] := by
    rcases ends with ⟨ε, z, hw⟩ | ⟨ε, z, er, hw⟩
    · cases z
      cases hw
      exact ⟨rfl, rfl⟩
    · cases z
  obtain ⟨rfl, rfl⟩ := hws
  refine ties_body C h8 s (a.sh 0 v0 w (by rw [h1]; simp) rfl rfl) e5 fun v Φ' H' s1 s2 s3 s4 dv => q v Φ' H' ?_
  rw [h1, h3]
  refine ⟨s1, s2, fun b o hb _ => s3 b o hb, s4, fun k j hk => by simp at hk, ?_⟩
  show ResOk X.K H Φ' H' false v r
  exact dv
theorem def_body {X : Cx} {c : Cfg} {M f : Nat} {fd : FDef} {fs : FSig} {body : List Stmt} {vs : List V} {H : Hp} {Q : VK} {E : XK} {T : List FDef} {n : Nat} (C : StX c X (callF T M n)) (hf : T[f]? = some fd) (h : defOk c fd fs body = true)
    (sp : spOf X.K (callF T M (n + 1)) f fs vs H Q E) : ∃ t, PSs X body t ∧ t { nx := fun _ H' => Q .non H', rt := Q } (L2.start X.N vs) H := by
  unfold defOk at h
  split at h
  · rename_i hnat
    exact nat_body C hf hnat h sp
  unfold irOk at h
  simp only [Bool.and_eq_true, decide_eq_true_iff] at h
  obtain ⟨⟨⟨⟨⟨⟨⟨h1, hds⟩, h2⟩, h3⟩, h4⟩, h5⟩, h6⟩, h7⟩ := h
  split at h7
  · rename_i Oo hb
    obtain ⟨Φ, ds, r, ws, s, lv, a, ec, lw, il, q⟩ := sp
    have ec : (match T[f]? with | some fd => runF (callF T M n) M fd ds | none => .bad) = .ok (r, ws) := ec
    rw [hf] at ec
    obtain ⟨l, fl, e, ends⟩ := runF_ok ec
    rw [← h1] at hb
    obtain ⟨t, p, sm⟩ := goodB (cl := callF T M n) (N := M) fd.body c X body c.muts Oo (pinsOf fs.muts fs.dsl vs) C (pins_ok a h1 hds) hb
    refine ⟨t, p, ?_⟩
    have R := rel_start (N := X.N) s a
    rw [C.ctx.N] at R ⊢
    rw [h5, ← l] at e
    rw [h1] at sm
    rw [h6] at ends
    refine sm.2 Φ _ _ _ H fl _ R e (fun ε' O1 ef eo Φ' H' σ' R' s' => ?_) fun d ε' ef Φ' H' σ' v R' s' o => ?_
    · rcases ends with ⟨ε, z, _⟩ | ⟨ε, z, er, hw⟩
      · rw [ef] at z; cases z
      · rw [ef] at z
        cases z
        subst er eo
        obtain ⟨Ψ, s2, R2⟩ := R'.weak (subS_ok h7)
        exact q .non Ψ H' (rel_end s a R2 (s'.trans s2) hw il (Out.scalar .non fun _ z => nomatch z))
    · rcases ends with ⟨ε, z, hw⟩ | ⟨ε, z, er, hw⟩
      · rw [ef] at z
        cases z
        rw [h2] at o
        exact q v Φ' H' (rel_end s a R' s' hw il o)
      · rw [ef] at z; cases z
  · cases h7

/-! ### the table -/
def cfgOf (S : List FSig) (blts : List Str) (cns : List (Str × D)) (N : List Str) (st : Stmt) (fs : FSig) : Cfg := ⟨N, defScope st, S, blts, fs.muts, fs.fresh, true, fs.dsl, cns⟩
structure DefAt (K : PySem.W.Frag) (mg : Str → Option Value) (S : List FSig) (T : List FDef) (blts : List Str) (cns : List (Str × D)) (i : Nat) (fs : FSig) (f : Addr) (fdt : FuncData) : Prop where
  ex : ∃ (fd : FDef) (st : Stmt) (N : List Str) (qual : Str), T[i]? = some fd ∧ Fun K fs.name qual st f fdt ∧ FnScope N fs.ps (defScope st) ∧ defOk (cfgOf S blts cns N st fs) fd fs (defBody st) = true
  nm : mg fs.name = some (.ref f)
  bn : Binds K fdt fs.ps []
def Tabled (K : PySem.W.Frag) (mg : Str → Option Value) (S : List FSig) (T : List FDef) (blts : List Str) (cns : List (Str × D)) : Prop := ∀ i fs, S[i]? = some fs → ∃ f fdt, DefAt K mg S T blts cns i fs f fdt
/-- the module's constants -/
def CnsOk (K : PySem.W.Frag) (mg : Str → Option Value) (cns : List (Str × D)) : Prop := ∀ p ∈ cns, ∃ v u, mg p.1 = some u ∧ RelV v u ∧ (∀ Φ, Dp K Φ v p.2) ∧ isLd p.2 = false
theorem fn_all {P : Program} {w : World} {K : PySem.W.Frag} {mg : Str → Option Value} {base : Heap} {S : List FSig} {T : List FDef} {blts : List Str} {cns : List (Str × D)} (M : Nat) (tb : Tabled K mg S T blts cns) (hb : ∀ b ∈ blts, mg b = none) (hcn : CnsOk K mg cns) :
    ∀ (n i : Nat) (fs : FSig) (f : Addr) (fdt : FuncData), DefAt K mg S T blts cns i fs f fdt → FnG P w K mg base n f fdt fs.ps (spOf K (callF T M n) i fs)
  | 0, i, fs, f, fdt, _ => ⟨fun vs H Q E ⟨_, _, _, _, _, l, _⟩ => l, fun A outer s H args us vs Q E _ _ _ _ _ ⟨_, _, _, _, _, _, _, e, _⟩ => nomatch e⟩
  | n + 1, i, fs, f, fdt, d => by
    obtain ⟨fd, st, N, qual, hT, F, sc, ok⟩ := d.ex
    refine fnG_of F sc (fun vs H Q E ⟨_, _, _, _, _, l, _⟩ => l) fun cdv A outer s H vs Q E hr hgd sp => ?_
    refine def_body (c := cfgOf S blts cns N st fs) (fd := fd) (T := T) (n := n) ⟨⟨rfl, sc.nd, rfl, rfl, hgd, ?_, hb, fun _ _ => rfl, hcn⟩, ⟨fun j fj hj => ?_⟩, PassesOwn.never, sc.kind, rfl⟩ hT ok sp
    · have := hr.un
      show (A.deeper _).units + 200 < cLine
      omega
    · obtain ⟨f', fdt', d'⟩ := tb j fj hj
      obtain ⟨_, _, _, _, _, F', _, _⟩ := d'.ex
      exact ⟨f', fdt', n, d'.nm, F'.kp, d'.bn, hr, fn_all M tb hb hcn n j fj f' fdt' d'⟩
end Mir
/-! Mir, part V: a law's promise. -/
namespace Mir
open PySem PySem.Spec L2
open PyProof.Rows (envOfC IntsAre AllBare)

/-- the heap of a law's call: the script alone, or nothing -/
structure Lawful (P : Program) (w : World) (K : PySem.W.Frag) (h : Heap) (a : Addr) (xs : List V) (H : Hp) : Prop where
  one : ∀ b o, H b = some o → b = a ∧ (∃ ob us, o = .frz ob (.lst us)) ∧ K.lookup b = none
  has : SqL K H a xs
  ok : HOk P w H h
theorem lawful_any {P : Program} {w : World} {K : PySem.W.Frag} {h : Heap} {a : Addr} {vs : List Value} {ns : List Int} (KX : K.In h) (ha : h.get? a = some { cls := .type "list", data := .seq vs.toArray }) (hi : IntsAre vs ns) (hl : ns.length ≤ sizeLine) :
    ∃ H, Lawful P w K h a (ns.map V.int) H := by
  have rv := vals_ints hi
  cases hk : K.lookup a with
  | some o =>
    have e := KX a o hk
    rw [ha] at e
    cases e
    exact ⟨fun _ => none, fun b o z => (nomatch z), .inr ⟨_, vs.toArray, _, hk, rfl, rfl, rfl, by rw [List.size_toArray, hi.length]; exact hl, by simpa using rv⟩, fun b u z => (nomatch z)⟩
  | none =>
    let ob : Obj := { cls := .type "list", data := .seq vs.toArray }
    have at_ : ∀ b o, upd (fun _ => none) a (.frz ob (.lst (ns.map V.int))) b = some o → b = a ∧ o = .frz ob (.lst (ns.map V.int)) := by
      intro b o z
      by_cases e : b = a
      · subst e
        rw [upd_same] at z
        cases z
        exact ⟨rfl, rfl⟩
      · rw [upd_ne e] at z
        cases z
    refine ⟨upd (fun _ => none) a (.frz ob (.lst (ns.map V.int))), fun b o z => ?_, .inl (.inr ⟨ob, upd_same⟩), fun b o z => ?_⟩
    · obtain ⟨rfl, rfl⟩ := at_ b o z
      exact ⟨rfl, ⟨_, _, rfl⟩, hk⟩
    · obtain ⟨rfl, rfl⟩ := at_ b o z
      exact ⟨ha, by rw [List.length_map]; exact hl, vs, _, rv, ha⟩

theorem ints_dp {K : PySem.W.Frag} {Φ : Hp} : ∀ ns : List Int, DpAll K Φ (ns.map V.int) (ns.map PyData.int)
  | [] => .nil
  | n :: ns => .cons (.int n) (ints_dp ns)
/-- the law's def, called with the script -/
theorem law_callM {P : Program} {w : World} {K : PySem.W.Frag} {mg mb : Str → Option Value} {S : List FSig} {T : List FDef} {blts : List Str} {cns : List (Str × D)} {M n i : Nat} {fs : FSig} {fa a : Addr} {fdt : FuncData} {x : Str} {s : Shared} {vs : List Value} {ns : List Int}
    (KX : K.In s.heap) (g1 : s.heap.Ns mainGlobals mg) (g2 : s.heap.Ns builtinsNs mb) (g3 : ∀ x : Str, x ≠ "__name__" → mb x = bootBuiltins x) (g4 : s.heap.NoLimit) (g5 : s.gens = #[])
    (ha : s.heap.get? a = some { cls := .type "list", data := .seq vs.toArray }) (hi : IntsAre vs ns) (hl : ns.length ≤ sizeLine) (hr : Room n callerA)
    (tb : Tabled K mg S T blts cns) (hb : ∀ b ∈ blts, mg b = none) (hcn : CnsOk K mg cns) (d : DefAt K mg S T blts cns i fs fa fdt) (hps : fs.ps = [x]) (hmu : fs.muts = []) (ok : callF T M n i [.list (ns.map PyData.int)] = .ok (.bool true, [])) :
    codeAny (model P w) callerA (.call (.ref fa) ⟨[.ref a], []⟩) (fun r s' => r = .ok (.ret (.bool true)) ∧ OldK s.heap s'.heap ∧ s'.os = s.os ∧ AllBare s'.gens) s := by
  obtain ⟨H, L⟩ := lawful_any (P := P) (w := w) KX ha hi hl
  have stay : ∀ {b : Addr} {m : Str → Option Value}, s.heap.Ns b m → (hidT s.heap H).Ns b m := fun {b m} ⟨o, es, ep, e, dd, r⟩ => by
    refine ⟨o, es, ep, hidT_get e ?_, dd, r⟩
    cases q : H b with
    | none => rfl
    | some u =>
      obtain ⟨rfl, _⟩ := L.one b u q
      rw [ha] at e
      cases e
      cases dd
  have kin : K.In (hidT s.heap H) := fun b o e => hidT_get (KX b o e) (by
    cases q : H b with
    | none => rfl
    | some u =>
      have z := (L.one b u q).2.2
      rw [e] at z
      cases z)
  have e0 : Env0 P w K mg (hidT s.heap H) callerA [] s H :=
    ⟨rfl, ⟨kin, stay g1, ⟨mb, stay g2, g3⟩, by obtain ⟨mc, z1, z2⟩ := g4; exact ⟨mc, stay z1, z2⟩⟩, fun b o e => of_hidT e, Nat.le_of_eq (hidT_size _ _), trivial, fun b z => absurd (show b ∈ ([] : List Addr) from z) (by simp), L.ok, .of_eq g5⟩
  have F := fn_all (P := P) (w := w) (base := hidT s.heap H) M tb hb hcn n i fs fa fdt d
  have bt : BindsTo s fdt ⟨[.ref a], []⟩ (fs.ps.zip [.ref a]) := by
    have z := d.bn s [.ref a] KX (by rw [hps]; rfl)
    exact z
  refine codeAny_mono (F.run callerA [] s H ⟨[.ref a], []⟩ [.ref a] [.ref a] (fun v _ => v = .bl true) E0 hr rfl e0 bt (.cons rfl .nil) ⟨H, [.list (ns.map PyData.int)], .bool true, [], Same.refl _, by rw [hps]; rfl, ?_, ok, by rw [hmu]; rfl, fun w z => (nomatch z), fun v Φ' H' z => ?_⟩) fun r s' h => ?_
  · rw [hmu]
    refine ⟨rfl, fun j v e _ h1 h2 => ?_, fun j z => (nomatch z), fun j z => (nomatch z)⟩
    cases j with
    | zero =>
      cases h1
      cases h2
      exact .lst L.has (ints_dp ns)
    | succ j => cases h1
  · have z2 := z.res
    have z3 : Dp K Φ' v (.bool true) := by
      generalize fs.fresh = fr at z2
      cases fr <;> exact z2
    cases z3
    rfl
  · cases r with
    | error e => exact False.elim h
    | ok fl =>
      cases fl with
      | next => exact False.elim h
      | brk => exact False.elim h
      | cont => exact False.elim h
      | ret u =>
        obtain ⟨v, H', os, bare, un, hok', r', q⟩ := h
        subst q
        obtain rfl : u = Value.bool true := r'
        refine ⟨rfl, OldK.of_keep fun b o e => ?_, os, bare⟩
        cases q : H b with
        | none => exact un.keep b o e q (by intro z; exact absurd (show b ∈ ([] : List Addr) from z) (by simp)) (by simp)
        | some y =>
          obtain ⟨_, ⟨ob, us, rfl⟩, _⟩ := L.one b y q
          obtain ⟨e1, _⟩ := L.ok b _ q
          obtain ⟨e2, _⟩ := hok' b _ (un.frzs b ob _ q)
          rw [e] at e1
          cases e1
          exact e2

/-- the goal that k_head leaves -/
theorem walkM {l : PySem.W.OpenLaw} {N : Nat} {q : Program} {loose : List Str} {XP : (Str → Option Value) → Heap → Prop} {YP : World → Heap → Prop} {d : DefRec} {K : Params → PySem.W.Frag} {x : Str} (S : List FSig) (T : List FDef) (blts : List Str) (cns : List (Str × D)) (n i : Nat) (fs : FSig)
    (hn : l.most = some N) (hN : N ≤ sizeLine) (hdf : d.params.defaults = []) (hr : Room n callerA) (hY : ∀ (w : World) (h : Heap), YP w h → (K w.params).In h)
    (hfs : S[i]? = some fs) (hnm : fs.name = d.name) (hps : fs.ps = [x]) (hmu : fs.muts = [])
    (F : ∀ (w : World) (mg : Str → Option Value) (h : Heap), (K w.params).In h → h.Ns mainGlobals mg → Tabled (K w.params) mg S T blts cns ∧ (∀ b ∈ blts, mg b = none) ∧ CnsOk (K w.params) mg cns)
    (ok : ∀ ns : List Int, ns.length ≤ N → ∃ M, callF T M n i [.list (ns.map PyData.int)] = .ok (.bool true, [])) :
    PySem.W.WalkO q loose XP YP l.row.toRowW d [] (fun f vs => PySem.call f vs) := by
  refine Att.attach_call hn hdf fun w s₀ s mg mb fa o pm cd doc a vs ns G Y ho hd hcd hmg hobj hints hlen hg => ?_
  have KX := hY w _ Y
  obtain ⟨tb, hb, hcn⟩ := F w mg _ KX G.T.g
  obtain ⟨f, fdt, D⟩ := tb i fs hfs
  have e := D.nm
  rw [hnm, hmg] at e
  cases e
  obtain ⟨M, hM⟩ := ok ns hlen
  exact law_callM KX G.T.g G.T.b G.T.builtins G.T.nolimit hg hobj hints (Nat.le_trans hlen hN) hr tb hb hcn D hps hmu hM
end Mir
/-! Mir, part P: the pure side. What a run in the small language answers, step by step. -/
namespace Mir.P
open PySem

def Ok {α : Type} (x : Res α) (Q : α → Prop) : Prop := ∃ a, x = .ok a ∧ Q a
section
variable {α β γ : Type} {Q : α → Prop} {R : β → Prop}
theorem bind_ok {a : α} {f : α → Res β} : (Res.ok a >>= f) = f a := (Eq.trans rfl rfl)
theorem bind_bad {f : α → Res β} : ((Res.bad : Res α) >>= f) = .bad := (Eq.trans rfl rfl)
theorem pure_is {a : α} : (pure a : Res α) = .ok a := (Eq.trans rfl rfl)
theorem bind_bind {x : Res α} {f : α → Res β} {g : β → Res γ} : ((x >>= f) >>= g) = (x >>= fun a => f a >>= g) := by cases x <;> rfl
theorem ok_bind {x : Res α} {f : α → Res β} : Ok (x >>= f) R ↔ Ok x fun a => Ok (f a) R := by
  cases x with
  | ok a => exact ⟨fun h => ⟨a, rfl, h⟩, fun ⟨b, e, h⟩ => by cases e; exact h⟩
  | bad => exact ⟨fun ⟨_, e, _⟩ => (nomatch e), fun ⟨_, e, _⟩ => (nomatch e)⟩
theorem ok_ok {a : α} : Ok (.ok a) Q ↔ Q a := ⟨fun ⟨_, e, h⟩ => by cases e; exact h, fun h => ⟨a, rfl, h⟩⟩
theorem ok_bad : Ok .bad Q ↔ False := ⟨fun ⟨_, e, _⟩ => (nomatch e), False.elim⟩
theorem guard_true : Res.guard true = .ok () := (Eq.trans rfl rfl)
theorem guard_of {c : Bool} (h : c = true) : Res.guard c = .ok () := by rw [h]; rfl
theorem ok_guard {c : Bool} {P : Unit → Prop} : Ok (Res.guard c) P ↔ c = true ∧ P () := by
  cases c with
  | true => exact ⟨fun h => ⟨rfl, ok_ok.mp h⟩, fun h => ok_ok.mpr h.2⟩
  | false => exact ⟨fun ⟨_, e, _⟩ => (nomatch e), fun h => (nomatch h.1)⟩
theorem ok_ite {c : Prop} [Decidable c] {x y : Res α} : Ok (if c then x else y) Q ↔ if c then Ok x Q else Ok y Q := by
  split <;> rfl
theorem ok_cases {c : Prop} {_ : Decidable c} {x y : Res α} (h1 : c → Ok x Q) (h2 : ¬ c → Ok y Q) : Ok (if c then x else y) Q := by
  split
  · exact h1 ‹_›
  · exact h2 ‹_›
theorem ofO_some {a : α} : Res.ofO (some a) = .ok a := (Eq.trans rfl rfl)
theorem Ok.mono {P : α → Prop} {x : Res α} (h : Ok x P) (q : ∀ a, P a → Q a) : Ok x Q := by
  obtain ⟨a, e, h⟩ := h
  exact ⟨a, e, q a h⟩
theorem Ok.eq {x : Res α} {a : α} (h : Ok x fun b => b = a) : x = .ok a := by
  obtain ⟨b, e, rfl⟩ := h
  exact e
end

/-! ### slots -/
theorem look_z {d : D} {ε : MEnv} : look (some d :: ε) 0 = .ok d := (Eq.trans rfl rfl)
theorem look_s {x : Option D} {ε : MEnv} {n : Nat} : look (x :: ε) (n + 1) = look ε n := (Eq.trans rfl rfl)
theorem set_z {x : Option D} {y : Option D} {ε : MEnv} : (x :: ε).set 0 y = y :: ε := (Eq.trans rfl rfl)
theorem set_s {x : Option D} {y : Option D} {ε : MEnv} {n : Nat} : (x :: ε).set (n + 1) y = x :: ε.set n y := (Eq.trans rfl rfl)
theorem fin_f {d : D} {ε : MEnv} : fin false d ε = .ok (d, ε) := (Eq.trans rfl rfl)
theorem fin_t {d : D} {ε : MEnv} : fin true d ε = (truD d >>= fun k => .ok (.bool k, ε)) := (Eq.trans rfl rfl)
theorem resolve_nil {ε : MEnv} : resolve ε [] = .ok [] := (Eq.trans rfl rfl)
theorem resolve_val {ε : MEnv} {d : D} {r : List OV} : resolve ε (.val d :: r) = (resolve ε r >>= fun ds => .ok (d :: ds)) := (Eq.trans rfl rfl)
theorem resolve_sl {ε : MEnv} {i : Nat} {r : List OV} : resolve ε (.sl i :: r) = (look ε i >>= fun d => resolve ε r >>= fun ds => .ok (d :: ds)) := (Eq.trans rfl rfl)
theorem setAll_nil {ε : MEnv} {ds : List D} : setAll ε [] ds = ε := (Eq.trans rfl rfl)
theorem setAll_cons {ε : MEnv} {i : Nat} {is : List Nat} {d : D} {ds : List D} : setAll ε (i :: is) (d :: ds) = setAll (ε.set i (some d)) is ds := (Eq.trans rfl rfl)
theorem setTg_nm {i : Nat} {x : D} {ε : MEnv} : setTg (.nm i) x ε = .ok (ε.set i (some x)) := (Eq.trans rfl rfl)
theorem setTg_tp {is : List Nat} {xs : List D} {ε : MEnv} : setTg (.tp is) (.tuple xs) ε = if xs.length = is.length then .ok (setAll ε is xs) else .bad := (Eq.trans rfl rfl)
theorem isLa_z {d : D} {ε : MEnv} : isLa (some d :: ε) 0 = isLd d := (Eq.trans rfl rfl)
theorem isLa_s {x : Option D} {ε : MEnv} {n : Nat} : isLa (x :: ε) (n + 1) = isLa ε n := (Eq.trans rfl rfl)
theorem isLd_list {xs : List D} : isLd (.list xs) = true := (Eq.trans rfl rfl)

/-! ### expressions -/
section
variable {cl : Cl} {ε : MEnv}
theorem e_c {tm : Bool} {d : D} : ev cl tm (.c d) ε = fin tm d ε := (Eq.trans rfl rfl)
theorem e_v {tm : Bool} {i : Nat} : ev cl tm (.v i) ε = (look ε i >>= fun d => fin tm d ε) := (Eq.trans rfl rfl)
theorem e_o {i : Nat} : ev cl true (.o i) ε = (look ε i >>= fun d => fin true d ε) := (Eq.trans rfl rfl)
theorem e_mv {tm : Bool} {i : Nat} : ev cl tm (.mv i) ε = (look ε i >>= fun d => fin tm d (ε.set i none)) := (Eq.trans rfl rfl)
theorem e_p {tm : Bool} {op : Pr} {as : List IE} : ev cl tm (.p op as) ε = (evA cl as ε >>= fun q => resolve q.2 q.1 >>= fun ds => prim op ds >>= fun r => fin tm r q.2) := (Eq.trans rfl rfl)
theorem e_call {tm : Bool} {f : Nat} {as : List IE} {outs : List Nat} : ev cl tm (.call f as outs) ε = (evA cl as ε >>= fun q => resolve q.2 q.1 >>= fun ds => Res.guard (outs.all fun i => isLa q.2 i) >>= fun _ => cl f ds >>= fun p => Res.guard (decide (p.2.length = outs.length) && p.2.all isLd) >>= fun _ => fin tm p.1 (setAll q.2 outs p.2)) := (Eq.trans rfl rfl)
theorem e_and {tm : Bool} {a b : IE} : ev cl tm (.and a b) ε = (ev cl tm a ε >>= fun q => truD q.1 >>= fun k => if k = true then ev cl tm b q.2 else .ok (q.1, q.2)) := (Eq.trans rfl rfl)
theorem e_or {tm : Bool} {a b : IE} : ev cl tm (.or a b) ε = (ev cl tm a ε >>= fun q => truD q.1 >>= fun k => if k = true then .ok (q.1, q.2) else ev cl tm b q.2) := (Eq.trans rfl rfl)
theorem e_not {tm : Bool} {a : IE} : ev cl tm (.not a) ε = (ev cl tm a ε >>= fun q => boolOf q.1 >>= fun k => .ok (.bool (!k), q.2)) := (Eq.trans rfl rfl)
theorem e_ifx {tm : Bool} {t a b : IE} : ev cl tm (.ifx t a b) ε = (ev cl true t ε >>= fun q => boolOf q.1 >>= fun k => (if k = true then ev cl false a q.2 else ev cl false b q.2) >>= fun p => fin tm p.1 p.2) := (Eq.trans rfl rfl)
theorem e_chain {tm : Bool} {o1 o2 : Pr} {a b c : IE} : ev cl tm (.chain o1 o2 a b c) ε = (ev cl false a ε >>= fun p => ev cl false b p.2 >>= fun q => prim o1 [p.1, q.1] >>= fun z => boolOf z >>= fun k => if k = true then ev cl false c q.2 >>= fun u => prim o2 [q.1, u.1] >>= fun r => boolOf r >>= fun k2 => .ok (.bool k2, u.2) else .ok (.bool false, q.2)) := (Eq.trans rfl rfl)
theorem e_chain3 {tm : Bool} {o1 o2 o3 : Pr} {a b c d : IE} : ev cl tm (.chain3 o1 o2 o3 a b c d) ε = (ev cl false a ε >>= fun p => ev cl false b p.2 >>= fun q => prim o1 [p.1, q.1] >>= fun z => boolOf z >>= fun k => if k = true then ev cl false c q.2 >>= fun u => prim o2 [q.1, u.1] >>= fun r => boolOf r >>= fun k2 => if k2 = true then ev cl false d u.2 >>= fun w => prim o3 [u.1, w.1] >>= fun r3 => boolOf r3 >>= fun k3 => .ok (.bool k3, w.2) else .ok (.bool false, u.2) else .ok (.bool false, q.2)) := (Eq.trans rfl rfl)
def cmpF (cl : Cl) (tg : Tg) (cs : List IE) (e : IE) : D → MEnv → Res (Option D × MEnv) := fun x ε => setTg tg x (wipeE ε tg.slots) >>= fun ε3 => evTs cl cs ε3 >>= fun q => if q.1 = true then ev cl false e q.2 >>= fun p => .ok (some p.1, p.2) else .ok (none, q.2)
theorem e_comp {tm : Bool} {k : IK} {as : List IE} {tg : Tg} {cs : List IE} {e : IE} : ev cl tm (.comp k as tg cs e) ε = (evA cl as ε >>= fun q => resolve q.2 q.1 >>= fun ds => iterF k ds >>= fun items => compM (cmpF cl tg cs e) items q.2 >>= fun p => Res.guard (fitN p.1.length) >>= fun _ => fin tm (.list p.1) (backE q.2 p.2 tg.slots)) := (Eq.trans rfl rfl)
theorem e_disp_t {tm : Bool} {as : List IE} : ev cl tm (.disp true as) ε = (evA cl as ε >>= fun q => resolve q.2 q.1 >>= fun ds => Res.guard (fitN ds.length) >>= fun _ => fin tm (.tuple ds) q.2) := (Eq.trans rfl rfl)
theorem e_disp_f {tm : Bool} {as : List IE} : ev cl tm (.disp false as) ε = (evA cl as ε >>= fun q => resolve q.2 q.1 >>= fun ds => Res.guard (fitN ds.length) >>= fun _ => fin tm (.list ds) q.2) := (Eq.trans rfl rfl)
theorem e_pop {tm : Bool} {i : Nat} {as : List IE} : ev cl tm (.pop i as) ε = (look ε i >>= fun y0 => Mir.listOf y0 >>= fun _ => evA cl as ε >>= fun q => resolve q.2 q.1 >>= fun ds => look q.2 i >>= fun x => Mir.listOf x >>= fun xs => popD xs ds >>= fun p => fin tm p.1 (q.2.set i (some (.list p.2)))) := (Eq.trans rfl rfl)
theorem e_rep {tm : Bool} {x k : IE} : ev cl tm (.rep false x k) ε = (ev cl false x ε >>= fun p => ev cl false k p.2 >>= fun q => pRepL p.1 q.1 >>= fun r => fin tm r q.2) := (Eq.trans rfl rfl)
theorem e_mth {tm : Bool} {op : Pr} {x e : IE} : ev cl tm (.mth op x e) ε = (ev cl false x ε >>= fun p => Mir.listOf p.1 >>= fun _ => ev cl false e p.2 >>= fun q => prim op [p.1, q.1] >>= fun r => fin tm r q.2) := (Eq.trans rfl rfl)
def cut1 (tm : Bool) (l h : Option Int) (ε : MEnv) : List D → Res (D × MEnv)
  | [d] => pCut d l h >>= fun r => fin tm r ε
  | _ => .bad
theorem cut1_one {tm : Bool} {l h : Option Int} {d : D} : cut1 tm l h ε [d] = (pCut d l h >>= fun r => fin tm r ε) := (Eq.trans rfl rfl)
theorem e_cut {tm : Bool} {x lo hi : List IE} : ev cl tm (.cut x lo hi) ε = (evA cl x ε >>= fun q => evP cl lo q.2 >>= fun l => evP cl hi l.2 >>= fun h => resolve h.2 q.1 >>= cut1 tm l.1 h.1 h.2) := (Eq.trans rfl rfl)
theorem a_nil : evA cl [] ε = .ok ([], ε) := (Eq.trans rfl rfl)
theorem a_o {i : Nat} {es : List IE} : evA cl (.o i :: es) ε = (look ε i >>= fun _ => evA cl es ε >>= fun p => .ok (.sl i :: p.1, p.2)) := (Eq.trans rfl rfl)
theorem a_e {e : IE} {es : List IE} (h : isO e = false) : evA cl (e :: es) ε = (ev cl false e ε >>= fun q => evA cl es q.2 >>= fun p => .ok (.val q.1 :: p.1, p.2)) := evA_cons h es ε
theorem a_c {d : D} {es : List IE} : evA cl (.c d :: es) ε = (ev cl false (.c d) ε >>= fun q => evA cl es q.2 >>= fun p => .ok (.val q.1 :: p.1, p.2)) := (Eq.trans rfl rfl)
theorem a_v {i : Nat} {es : List IE} : evA cl (.v i :: es) ε = (ev cl false (.v i) ε >>= fun q => evA cl es q.2 >>= fun p => .ok (.val q.1 :: p.1, p.2)) := (Eq.trans rfl rfl)
theorem a_mv {i : Nat} {es : List IE} : evA cl (.mv i :: es) ε = (ev cl false (.mv i) ε >>= fun q => evA cl es q.2 >>= fun p => .ok (.val q.1 :: p.1, p.2)) := (Eq.trans rfl rfl)
theorem a_p {op : Pr} {as : List IE} {es : List IE} : evA cl (.p op as :: es) ε = (ev cl false (.p op as) ε >>= fun q => evA cl es q.2 >>= fun p => .ok (.val q.1 :: p.1, p.2)) := (Eq.trans rfl rfl)
theorem a_call {f : Nat} {as : List IE} {outs : List Nat} {es : List IE} : evA cl (.call f as outs :: es) ε = (ev cl false (.call f as outs) ε >>= fun q => evA cl es q.2 >>= fun p => .ok (.val q.1 :: p.1, p.2)) := (Eq.trans rfl rfl)
theorem a_and {a b : IE} {es : List IE} : evA cl (.and a b :: es) ε = (ev cl false (.and a b) ε >>= fun q => evA cl es q.2 >>= fun p => .ok (.val q.1 :: p.1, p.2)) := (Eq.trans rfl rfl)
theorem a_or {a b : IE} {es : List IE} : evA cl (.or a b :: es) ε = (ev cl false (.or a b) ε >>= fun q => evA cl es q.2 >>= fun p => .ok (.val q.1 :: p.1, p.2)) := (Eq.trans rfl rfl)
theorem a_not {a : IE} {es : List IE} : evA cl (.not a :: es) ε = (ev cl false (.not a) ε >>= fun q => evA cl es q.2 >>= fun p => .ok (.val q.1 :: p.1, p.2)) := (Eq.trans rfl rfl)
theorem a_ifx {t a b : IE} {es : List IE} : evA cl (.ifx t a b :: es) ε = (ev cl false (.ifx t a b) ε >>= fun q => evA cl es q.2 >>= fun p => .ok (.val q.1 :: p.1, p.2)) := (Eq.trans rfl rfl)
theorem a_chain {o1 o2 : Pr} {a b c : IE} {es : List IE} : evA cl (.chain o1 o2 a b c :: es) ε = (ev cl false (.chain o1 o2 a b c) ε >>= fun q => evA cl es q.2 >>= fun p => .ok (.val q.1 :: p.1, p.2)) := (Eq.trans rfl rfl)
theorem a_chain3 {o1 o2 o3 : Pr} {a b c d : IE} {es : List IE} : evA cl (.chain3 o1 o2 o3 a b c d :: es) ε = (ev cl false (.chain3 o1 o2 o3 a b c d) ε >>= fun q => evA cl es q.2 >>= fun p => .ok (.val q.1 :: p.1, p.2)) := (Eq.trans rfl rfl)
theorem a_comp {k : IK} {as : List IE} {tg : Tg} {cs : List IE} {e : IE} {es : List IE} : evA cl (.comp k as tg cs e :: es) ε = (ev cl false (.comp k as tg cs e) ε >>= fun q => evA cl es q.2 >>= fun p => .ok (.val q.1 :: p.1, p.2)) := (Eq.trans rfl rfl)
theorem a_pop {i : Nat} {as : List IE} {es : List IE} : evA cl (.pop i as :: es) ε = (ev cl false (.pop i as) ε >>= fun q => evA cl es q.2 >>= fun p => .ok (.val q.1 :: p.1, p.2)) := (Eq.trans rfl rfl)
theorem a_disp {t : Bool} {as : List IE} {es : List IE} : evA cl (.disp t as :: es) ε = (ev cl false (.disp t as) ε >>= fun q => evA cl es q.2 >>= fun p => .ok (.val q.1 :: p.1, p.2)) := (Eq.trans rfl rfl)
theorem a_rep {t : Bool} {x k : IE} {es : List IE} : evA cl (.rep t x k :: es) ε = (ev cl false (.rep t x k) ε >>= fun q => evA cl es q.2 >>= fun p => .ok (.val q.1 :: p.1, p.2)) := (Eq.trans rfl rfl)
theorem a_mth {op : Pr} {x e : IE} {es : List IE} : evA cl (.mth op x e :: es) ε = (ev cl false (.mth op x e) ε >>= fun q => evA cl es q.2 >>= fun p => .ok (.val q.1 :: p.1, p.2)) := (Eq.trans rfl rfl)
theorem a_cut {x lo hi : List IE} {es : List IE} : evA cl (.cut x lo hi :: es) ε = (ev cl false (.cut x lo hi) ε >>= fun q => evA cl es q.2 >>= fun p => .ok (.val q.1 :: p.1, p.2)) := (Eq.trans rfl rfl)
theorem a_dget {i : Nat} {k : IE} {es : List IE} : evA cl (.dget i k :: es) ε = (ev cl false (.dget i k) ε >>= fun q => evA cl es q.2 >>= fun p => .ok (.val q.1 :: p.1, p.2)) := (Eq.trans rfl rfl)
theorem a_din {neg : Bool} {k : IE} {i : Nat} {es : List IE} : evA cl (.din neg k i :: es) ε = (ev cl false (.din neg k i) ε >>= fun q => evA cl es q.2 >>= fun p => .ok (.val q.1 :: p.1, p.2)) := (Eq.trans rfl rfl)
theorem a_callD {f : Nat} {as : List IE} {t : Bool} {es : List IE} : evA cl (.callD f as t :: es) ε = (ev cl false (.callD f as t) ε >>= fun q => evA cl es q.2 >>= fun p => .ok (.val q.1 :: p.1, p.2)) := (Eq.trans rfl rfl)
theorem a_rg {t : Bool} {as : List IE} {es : List IE} : evA cl (.rg t as :: es) ε = (ev cl false (.rg t as) ε >>= fun q => evA cl es q.2 >>= fun p => .ok (.val q.1 :: p.1, p.2)) := (Eq.trans rfl rfl)
theorem e_dget {tm : Bool} {i : Nat} {k : IE} : ev cl tm (.dget i k) ε = (look ε i >>= fun _ => ev cl false k ε >>= fun q => look q.2 i >>= fun y => dictOf y >>= fun z => Res.guard (keyOk z.1 q.1) >>= fun _ => Res.ofO (dFind z.2 q.1) >>= fun v => fin tm v q.2) := (Eq.trans rfl rfl)
theorem e_din {tm neg : Bool} {i : Nat} {k : IE} : ev cl tm (.din neg k i) ε = (ev cl false k ε >>= fun q => look q.2 i >>= fun y => dictOf y >>= fun z => Res.guard (keyOk z.1 q.1) >>= fun _ => .ok (.bool (neg != (dFind z.2 q.1).isSome), q.2)) := (Eq.trans rfl rfl)
theorem e_callD {tm : Bool} {f : Nat} {as : List IE} {t : Bool} : ev cl tm (.callD f as t) ε = (evA cl as ε >>= fun q => resolve q.2 q.1 >>= fun ds => cl f (ds ++ [if t = true then dTD [] else dKD []]) >>= fun p => Res.guard (decide (p.2.length = 1) && p.2.all isLd) >>= fun _ => fin tm p.1 q.2) := (Eq.trans rfl rfl)
theorem e_rg {tm : Bool} {t : Bool} {as : List IE} : ev cl tm (.rg t as) ε = (evA cl as ε >>= fun q => resolve q.2 q.1 >>= fun ds => iterF .rng ds >>= fun xs => Res.guard (decide (ds.length ≤ 2) && fitN xs.length) >>= fun _ => fin tm (if t = true then .tuple xs else .list xs) q.2) := (Eq.trans rfl rfl)
theorem dictOf_k {kvs : List (D × D)} : dictOf (dKD kvs) = .ok (false, kvs) := (Eq.trans rfl rfl)
theorem dictOf_t {kvs : List (D × D)} : dictOf (dTD kvs) = .ok (true, kvs) := (Eq.trans rfl rfl)
theorem key_i {i : Int} : keyOk false (.int i) = true := (Eq.trans rfl rfl)
theorem key_s {x : Str} : keyOk false (.str x) = true := (Eq.trans rfl rfl)
theorem isLd_k {kvs : List (D × D)} : isLd (dKD kvs) = true := (Eq.trans rfl rfl)
theorem isLd_t {kvs : List (D × D)} : isLd (dTD kvs) = true := (Eq.trans rfl rfl)
theorem a_od {i : Nat} {es : List IE} : evA cl (.od i :: es) ε = (look ε i >>= fun _ => evA cl es ε >>= fun p => .ok (.sl i :: p.1, p.2)) := (Eq.trans rfl rfl)
theorem p_nil : evP cl [] ε = .ok (none, ε) := (Eq.trans rfl rfl)
theorem p_one {e : IE} : evP cl [e] ε = (ev cl false e ε >>= fun q => intOf q.1 >>= fun i => .ok (some i, q.2)) := (Eq.trans rfl rfl)
theorem t_nil : evTs cl [] ε = .ok (true, ε) := (Eq.trans rfl rfl)
theorem t_cons {e : IE} {es : List IE} : evTs cl (e :: es) ε = (ev cl true e ε >>= fun q => boolOf q.1 >>= fun k => if k = true then evTs cl es q.2 else .ok (false, q.2)) := (Eq.trans rfl rfl)
theorem boolOf_b {b : Bool} : boolOf (.bool b) = .ok b := (Eq.trans rfl rfl)
theorem intOf_i {i : Int} : intOf (.int i) = .ok i := (Eq.trans rfl rfl)
theorem listOf_l {xs : List D} : Mir.listOf (.list xs) = .ok xs := (Eq.trans rfl rfl)
theorem seqOf_l {xs : List D} : seqOf (.list xs) = .ok xs := (Eq.trans rfl rfl)
theorem seqOf_t {xs : List D} : seqOf (.tuple xs) = .ok xs := (Eq.trans rfl rfl)
end

/-! ### statements -/
section
variable {cl : Cl} {N : Nat} {ε : MEnv} {Q : Flow → Prop} {r : List IS}
theorem s_set {tg : Tg} {e : IE} : evS cl N (.set tg e) ε = (ev cl false e ε >>= fun q => setTg tg q.1 q.2 >>= fun ε2 => .ok (.nx ε2)) := (Eq.trans rfl rfl)
theorem s_par {i j : Nat} {a b : IE} : evS cl N (.par i j a b) ε = (ev cl false a ε >>= fun p => ev cl false b p.2 >>= fun q => .ok (.nx ((q.2.set i (some p.1)).set j (some q.1)))) := (Eq.trans rfl rfl)
theorem s_sub {i : Nat} {k e : IE} : evS cl N (.sub i k e) ε = (ev cl false e ε >>= fun p => look p.2 i >>= fun _ => ev cl false k p.2 >>= fun q => intOf q.1 >>= fun n => look q.2 i >>= fun y => Mir.listOf y >>= fun xs => Res.ofO (ixOf xs.length n) >>= fun j => .ok (.nx (q.2.set i (some (.list (xs.set j p.1)))))) := (Eq.trans rfl rfl)
theorem s_app {i : Nat} {e : IE} : evS cl N (.app i e) ε = (look ε i >>= fun y0 => Mir.listOf y0 >>= fun _ => ev cl false e ε >>= fun p => look p.2 i >>= fun y => Mir.listOf y >>= fun xs => Res.guard (decide (xs.length < sizeLine)) >>= fun _ => .ok (.nx (p.2.set i (some (.list (xs ++ [p.1])))))) := (Eq.trans rfl rfl)
theorem s_ext {i : Nat} {e : IE} : evS cl N (.ext i e) ε = (look ε i >>= fun y0 => Mir.listOf y0 >>= fun _ => ev cl false e ε >>= fun p => Mir.listOf p.1 >>= fun ys => look p.2 i >>= fun y => Mir.listOf y >>= fun xs => Res.guard (fitN (xs.length + ys.length)) >>= fun _ => .ok (.nx (p.2.set i (some (.list (xs ++ ys)))))) := (Eq.trans rfl rfl)
theorem s_ex {e : IE} : evS cl N (.ex e) ε = (ev cl false e ε >>= fun p => .ok (.nx p.2)) := (Eq.trans rfl rfl)
theorem s_ite {c : IE} {t e : List IS} : evS cl N (.ite c t e) ε = (ev cl true c ε >>= fun q => boolOf q.1 >>= fun k => if k = true then evB cl N t q.2 else evB cl N e q.2) := (Eq.trans rfl rfl)
theorem s_whl {c : IE} {b : List IS} : evS cl N (.whl c b) ε = whileM (ev cl true c) (evB cl N b) N ε := (Eq.trans rfl rfl)
theorem s_for {k : IK} {as : List IE} {tg : Tg} {b : List IS} : evS cl N (.for_ k as tg b) ε = (evA cl as ε >>= fun q => resolve q.2 q.1 >>= fun ds => iterF k ds >>= fun items => forM (forF cl N tg b) items q.2) := (Eq.trans rfl rfl)
theorem s_ret {e : IE} : evS cl N (.ret e) ε = (ev cl false e ε >>= fun q => .ok (.rt q.1 q.2)) := (Eq.trans rfl rfl)
theorem s_dnew {i : Nat} {t : Bool} : evS cl N (.dnew i t) ε = .ok (.nx (ε.set i (some (if t = true then dTD [] else dKD [])))) := (Eq.trans rfl rfl)
theorem s_dof {i : Nat} {t : Bool} {e : IE} : evS cl N (.dof i t e) ε = (ev cl false e ε >>= fun p => Mir.listOf p.1 >>= fun xs => pairsOf t xs >>= fun ps => .ok (.nx (p.2.set i (some (if t = true then dTD (dPuts [] ps) else dKD (dPuts [] ps)))))) := (Eq.trans rfl rfl)
theorem s_dput {i : Nat} {k e : IE} : evS cl N (.dput i k e) ε = (ev cl false e ε >>= fun p => look p.2 i >>= fun _ => ev cl false k p.2 >>= fun q => look q.2 i >>= fun y => dictOf y >>= fun z => Res.guard (keyOk z.1 q.1 && decide (z.2.length < sizeLine)) >>= fun _ => .ok (.nx (q.2.set i (some (if z.1 = true then dTD (dPut z.2 q.1 p.1) else dKD (dPut z.2 q.1 p.1)))))) := (Eq.trans rfl rfl)
theorem s_nat {k : Nat} : evS cl N (.nat k) ε = (look ε 0 >>= fun w => natD k w >>= fun d => .ok (.rt d ε)) := (Eq.trans rfl rfl)
theorem s_pass : evS cl N .pass ε = .ok (.nx ε) := (Eq.trans rfl rfl)
theorem forF_nm {i : Nat} {b : List IS} {x : D} : forF cl N (.nm i) b x ε = evB cl N b (ε.set i (some x)) := (Eq.trans rfl rfl)
theorem forF_tp {is : List Nat} {b : List IS} {xs : List D} (h : xs.length = is.length) : forF cl N (.tp is) b (.tuple xs) ε = evB cl N b (setAll ε is xs) := by
  show ((if xs.length = is.length then .ok (setAll ε is xs) else .bad) >>= fun ε2 => evB cl N b ε2) = _
  rw [if_pos h]
  rfl
def contB (cl : Cl) (N : Nat) (r : List IS) (Q : Flow → Prop) : Flow → Prop
  | .nx ε => Ok (evB cl N r ε) Q
  | .rt d ε => Q (.rt d ε)
theorem contB_any : contB cl N r Q (.nx ε) ↔ Ok (evB cl N r ε) Q := Iff.rfl
theorem contB_nx {x : Option D} : contB cl N r Q (.nx (x :: ε)) ↔ Ok (evB cl N r (x :: ε)) Q := Iff.rfl
theorem contB_rt {d : D} : contB cl N r Q (.rt d ε) ↔ Q (.rt d ε) := Iff.rfl
theorem okB_nil : Ok (evB cl N [] ε) Q ↔ Q (.nx ε) := ok_ok
theorem okB_cons {s : IS} : Ok (evB cl N (s :: r) ε) Q ↔ Ok (evS cl N s ε) (contB cl N r Q) := by
  rw [evB_cons, ok_bind]
  constructor
  · rintro ⟨fl, e, h⟩
    refine ⟨fl, e, ?_⟩
    cases fl with
    | nx ε1 => exact h
    | rt d ε1 =>
      have h : Ok (Res.ok (Flow.rt d ε1)) Q := h
      have h := ok_ok.mp h
      exact h
  · rintro ⟨fl, e, h⟩
    refine ⟨fl, e, ?_⟩
    cases fl with
    | nx ε1 => exact h
    | rt d ε1 =>
      have h : Q (Flow.rt d ε1) := h
      exact ok_ok.mpr h
end

/-! ### loops -/
def stepQ (J : MEnv → Prop) (Q : Flow → Prop) : Flow → Prop
  | .nx ε => J ε
  | .rt d ε => Q (.rt d ε)
theorem stepQ_nx {J : MEnv → Prop} {Q : Flow → Prop} {ε : MEnv} : stepQ J Q (.nx ε) ↔ J ε := Iff.rfl
theorem stepQ_rt {J : MEnv → Prop} {Q : Flow → Prop} {d : D} {ε : MEnv} : stepQ J Q (.rt d ε) ↔ Q (.rt d ε) := Iff.rfl
theorem for_list {f : D → MEnv → Res Flow} {Q : Flow → Prop} : ∀ (xs : List D) (I : Nat → MEnv → Prop) (ε : MEnv), I 0 ε → (∀ i x ε, xs[i]? = some x → I i ε → Ok (f x ε) (stepQ (I (i + 1)) Q)) → (∀ ε, I xs.length ε → Q (.nx ε)) → Ok (forM f xs ε) Q
  | [], I, ε, h0, _, hq => ok_ok.mpr (hq ε h0)
  | x :: xs, I, ε, h0, hs, hq => by
    rw [forM_cons, ok_bind]
    refine (hs 0 x ε rfl h0).mono fun fl h => ?_
    cases fl with
    | nx ε1 => exact for_list xs (fun i => I (i + 1)) ε1 h (fun i y ε2 e => hs (i + 1) y ε2 e) hq
    | rt d ε1 => exact ok_ok.mpr h
theorem up_len : ∀ (n : Nat) (lo : Int), (upFrom lo n).length = n
  | 0, _ => rfl
  | n + 1, lo => congrArg (· + 1) (up_len n (lo + 1))
theorem up_get : ∀ (n : Nat) (lo : Int) (i : Nat) (x : D), (upFrom lo n)[i]? = some x → i < n ∧ x = .int (lo + i)
  | 0, _, _, _, h => by cases h
  | n + 1, lo, 0, x, h => by
    have e := Option.some.inj h
    subst e
    exact ⟨Nat.succ_pos n, by simp⟩
  | n + 1, lo, i + 1, x, h => by
    obtain ⟨a, b⟩ := up_get n (lo + 1) i x h
    refine ⟨Nat.succ_lt_succ a, ?_⟩
    rw [b]
    congr 1
    omega
theorem for_rng {f : D → MEnv → Res Flow} {Q : Flow → Prop} {lo : Int} {n : Nat} {ε : MEnv} (I : Nat → MEnv → Prop) (h0 : I 0 ε) (hs : ∀ i ε, i < n → I i ε → Ok (f (.int (lo + i)) ε) (stepQ (I (i + 1)) Q)) (hq : ∀ ε, I n ε → Q (.nx ε)) : Ok (forM f (upFrom lo n) ε) Q := by
  refine for_list _ I ε h0 (fun i x ε e h => ?_) fun ε h => hq ε (by rwa [up_len] at h)
  obtain ⟨a, rfl⟩ := up_get _ _ _ _ e
  exact hs i ε a h
theorem for_rng0 {f : D → MEnv → Res Flow} {Q : Flow → Prop} {n : Nat} {ε : MEnv} (I : Nat → MEnv → Prop) (h0 : I 0 ε) (hs : ∀ i ε, i < n → I i ε → Ok (f (.int (i : Int)) ε) (stepQ (I (i + 1)) Q)) (hq : ∀ ε, I n ε → Q (.nx ε)) : Ok (forM f (upFrom 0 n) ε) Q :=
  for_rng I h0 (fun i ε hi h => by rw [Int.zero_add]; exact hs i ε hi h) hq
theorem while_inv {c : MEnv → Res (D × MEnv)} {b : MEnv → Res Flow} {Q : Flow → Prop} (I : Nat → MEnv → Prop) (hs : ∀ m ε, I m ε → Ok (c ε) fun p => ∃ k, p.1 = .bool k ∧ ((k = true ∧ Ok (b p.2) (stepQ (fun ε' => ∃ m', m' < m ∧ I m' ε') Q)) ∨ (k = false ∧ Q (.nx p.2)))) :
    ∀ (N m : Nat) (ε : MEnv), m < N → I m ε → Ok (whileM c b N ε) Q
  | 0, _, _, h, _ => absurd h (Nat.not_lt_zero _)
  | N + 1, m, ε, h, hi => by
    rw [whileM_succ, ok_bind]
    refine (hs m ε hi).mono fun p hp => ?_
    obtain ⟨x, ε1⟩ := p
    obtain ⟨k, e, hp⟩ := hp
    have e : x = .bool k := e
    subst e
    rw [show boolOf (PyData.bool k) = .ok k from rfl, bind_ok]
    rcases hp with ⟨rfl, hb⟩ | ⟨rfl, hb⟩
    · rw [if_pos rfl, ok_bind]
      refine hb.mono fun fl hf => ?_
      cases fl with
      | nx ε2 =>
        obtain ⟨m', hm, hi'⟩ := hf
        exact while_inv I hs N m' ε2 (by omega) hi'
      | rt d ε2 => exact ok_ok.mpr hf
    · rw [if_neg (by decide)]
      exact ok_ok.mpr hb
theorem comp_inv {f : D → MEnv → Res (Option D × MEnv)} {Q : List D × MEnv → Prop} : ∀ (xs : List D) (I : Nat → List D → MEnv → Prop) (acc : List D) (ε : MEnv), I 0 acc ε → (∀ i x acc ε, xs[i]? = some x → I i acc ε → Ok (f x ε) fun p => I (i + 1) (acc ++ p.1.toList) p.2) →
    (∀ ys ε, I xs.length (acc ++ ys) ε → Q (ys, ε)) → Ok (compM f xs ε) Q
  | [], I, acc, ε, h0, _, hq => ok_ok.mpr (hq [] ε (by rw [List.append_nil]; exact h0))
  | x :: xs, I, acc, ε, h0, hs, hq => by
    show Ok (f x ε >>= fun p => compM f xs p.2 >>= fun q => .ok (p.1.toList ++ q.1, q.2)) Q
    rw [ok_bind]
    refine (hs 0 x acc ε rfl h0).mono fun p hp => ?_
    rw [ok_bind]
    refine comp_inv xs (fun i => I (i + 1)) (acc ++ p.1.toList) p.2 hp (fun i y a ε2 e => hs (i + 1) y a ε2 e) fun ys ε2 h => ?_
    rw [ok_ok]
    refine hq _ _ ?_
    rw [← List.append_assoc]
    exact h
theorem comp_rng {f : D → MEnv → Res (Option D × MEnv)} {Q : List D × MEnv → Prop} {lo : Int} {n : Nat} {ε : MEnv} (I : Nat → List D → MEnv → Prop) (h0 : I 0 [] ε) (hs : ∀ i acc ε, i < n → I i acc ε → Ok (f (.int (lo + i)) ε) fun p => I (i + 1) (acc ++ p.1.toList) p.2) (hq : ∀ ys ε, I n ys ε → Q (ys, ε)) :
    Ok (compM f (upFrom lo n) ε) Q := by
  refine comp_inv _ I [] ε h0 (fun i x acc ε e h => ?_) fun ys ε h => hq ys ε (by rw [up_len] at h; exact h)
  obtain ⟨a, rfl⟩ := up_get _ _ _ _ e
  exact hs i acc ε a h

theorem comp_rng0 {f : D → MEnv → Res (Option D × MEnv)} {Q : List D × MEnv → Prop} {n : Nat} {ε : MEnv} (I : Nat → List D → MEnv → Prop) (h0 : I 0 [] ε) (hs : ∀ i acc ε, i < n → I i acc ε → Ok (f (.int (i : Int)) ε) fun p => I (i + 1) (acc ++ p.1.toList) p.2) (hq : ∀ ys ε, I n ys ε → Q (ys, ε)) :
    Ok (compM f (upFrom 0 n) ε) Q := comp_rng I h0 (fun i acc ε hi h => by rw [Int.zero_add]; exact hs i acc ε hi h) hq
/-! ### operations -/
theorem mulOk_l {a b : Int} (h1 : -9223372036854775808 ≤ a) (h2 : a < 9223372036854775808) : mulOk a b = true := by
  unfold mulOk
  have : a.natAbs < 2 ^ 64 := by omega
  simp [this]
theorem mulOk_r {a b : Int} (h1 : -9223372036854775808 ≤ b) (h2 : b < 9223372036854775808) : mulOk a b = true := by
  unfold mulOk
  have : b.natAbs < 2 ^ 64 := by omega
  simp [this]
theorem log2_lt {n k : Nat} (h : n < 2 ^ k) (hk : 0 < k) : n.log2 < k := by
  by_cases h0 : n = 0
  · subst h0
    simpa using hk
  · exact (Nat.log2_lt h0).2 h
theorem mulOk_b {a b : Int} {j k : Nat} (h1 : a.natAbs < 2 ^ j) (h2 : b.natAbs < 2 ^ k) (hj : 0 < j) (hk : 0 < k) (h : j + k ≤ 1000000) : mulOk a b = true := by
  unfold mulOk
  have := log2_lt h1 hj
  have := log2_lt h2 hk
  have : a.natAbs.log2 + b.natAbs.log2 < 1000000 := by omega
  simp [this]
theorem divOk_s {b : Int} (h1 : 0 < b) (h2 : b < 2 ^ 8999) : divOk b = true := by
  unfold divOk
  have h3 : b.natAbs < 2 ^ 8999 := by
    have e : ((2 ^ 8999 : Nat) : Int) = 2 ^ 8999 := by norm_cast
    rw [← e] at h2
    generalize 2 ^ 8999 = w at *
    omega
  have h4 := log2_lt h3 (by decide)
  have : b.natAbs.log2 < 9000 := by omega
  simp [this]
  omega
theorem o_mul {a b : Int} (h : mulOk a b = true) : prim .mul [.int a, .int b] = .ok (.int (a * b)) := by
  show (Res.guard (mulOk a b) >>= fun _ => Res.ok (PyData.int (a * b))) = _
  rw [guard_of h]
  rfl
theorem o_fdiv {a b : Int} (h0 : 0 < b) (h : divOk b = true) : prim .fdiv [.int a, .int b] = .ok (.int (a / b)) := by
  show (Res.guard (divOk b) >>= fun _ => Res.ok (PyData.int (if 0 < b then a / b else a.fdiv b))) = _
  rw [guard_of h, if_pos h0]
  rfl
theorem o_mod {a b : Int} (h0 : 0 < b) : prim .mod [.int a, .int b] = .ok (.int (a % b)) := by
  show (Res.guard (decide (b ≠ 0)) >>= fun _ => Res.ok (PyData.int (if 0 < b then a % b else a.fmod b))) = _
  rw [guard_of (by simp; omega), if_pos h0]
  rfl
theorem o_pow {a b : Int} (h0 : 0 ≤ b) (h1 : b ≤ 1000000) (h2 : -9223372036854775808 ≤ a) (h3 : a < 9223372036854775808) : prim .pow [.int a, .int b] = .ok (.int (a ^ b.toNat)) := by
  show (Res.guard (decide (0 ≤ b) && decide (b ≤ 1000000) && decide (a.natAbs < 2 ^ 64)) >>= fun _ => Res.ok (PyData.int (a ^ b.toNat))) = _
  have h4 : a.natAbs < 2 ^ 64 := by omega
  rw [guard_of (by simp [h0, h1, h4])]
  rfl
theorem o_mul_l {a b : Int} (h1 : -9223372036854775808 ≤ a) (h2 : a < 9223372036854775808) : prim .mul [.int a, .int b] = .ok (.int (a * b)) := o_mul (mulOk_l h1 h2)
theorem o_mul_r {a b : Int} (h1 : -9223372036854775808 ≤ b) (h2 : b < 9223372036854775808) : prim .mul [.int a, .int b] = .ok (.int (a * b)) := o_mul (mulOk_r h1 h2)
theorem o_fdiv_s {a b : Int} (h1 : 0 < b) (h2 : b < 9223372036854775808) : prim .fdiv [.int a, .int b] = .ok (.int (a / b)) := o_fdiv h1 (divOk_s h1 (Int.lt_of_lt_of_le h2 (by decide +kernel)))
theorem o_add {a b : Int} : prim .add [.int a, .int b] = .ok (.int (a + b)) := (Eq.trans rfl rfl)
theorem o_sub {a b : Int} : prim .sub [.int a, .int b] = .ok (.int (a - b)) := (Eq.trans rfl rfl)
theorem o_neg {a : Int} : prim .neg [.int a] = .ok (.int (-a)) := (Eq.trans rfl rfl)
theorem o_lt {a b : Int} : prim .lt [.int a, .int b] = .ok (.bool (decide (a < b))) := (Eq.trans rfl rfl)
theorem o_le {a b : Int} : prim .le [.int a, .int b] = .ok (.bool (decide (a ≤ b))) := (Eq.trans rfl rfl)
theorem o_gt {a b : Int} : prim .gt [.int a, .int b] = .ok (.bool (decide (b < a))) := (Eq.trans rfl rfl)
theorem o_ge {a b : Int} : prim .ge [.int a, .int b] = .ok (.bool (decide (b ≤ a))) := (Eq.trans rfl rfl)
theorem depth_i (a : Int) : (PyData.int a).depth = 0 := by simp [PyData.depth]
theorem dOk_i {a : Int} {d : D} : dOk (.int a) d = true := by
  unfold dOk
  rw [depth_i, Nat.zero_min]
  rfl
theorem o_eq {a b : Int} : prim .eq [.int a, .int b] = .ok (.bool (decide (a = b))) := by
  show ((Res.guard (dOk (.int a) (.int b)) >>= fun _ => .ok (PyData.eqv (.int a) (.int b))) >>= fun r => Res.ok (PyData.bool r)) = _
  rw [guard_of dOk_i]
  rfl
theorem o_ne {a b : Int} : prim .ne [.int a, .int b] = .ok (.bool (!decide (a = b))) := by
  show ((Res.guard (dOk (.int a) (.int b)) >>= fun _ => .ok (PyData.eqv (.int a) (.int b))) >>= fun r => Res.ok (PyData.bool (!r))) = _
  rw [guard_of dOk_i]
  rfl
theorem o_len_l {xs : List D} : prim .len [.list xs] = .ok (.int xs.length) := (Eq.trans rfl rfl)
theorem o_len_t {xs : List D} : prim .len [.tuple xs] = .ok (.int xs.length) := (Eq.trans rfl rfl)
theorem o_tuple_l {xs : List D} : prim .tuple [.list xs] = .ok (.tuple xs) := (Eq.trans rfl rfl)
theorem o_tuple_t {xs : List D} : prim .tuple [.tuple xs] = .ok (.tuple xs) := (Eq.trans rfl rfl)
theorem o_list_l {xs : List D} : prim .list [.list xs] = .ok (.list xs) := (Eq.trans rfl rfl)
theorem o_list_t {xs : List D} : prim .list [.tuple xs] = .ok (.list xs) := (Eq.trans rfl rfl)
theorem o_int_b {b : Bool} : prim .int [.bool b] = .ok (.int (if b then 1 else 0)) := (Eq.trans rfl rfl)
theorem o_int_i {i : Int} : prim .int [.int i] = .ok (.int i) := (Eq.trans rfl rfl)
theorem o_max2 {a b : Int} : prim .max [.int a, .int b] = .ok (.int (max a b)) := by
  show Res.ok (PyData.int (if b > a then b else a)) = _
  congr 2
  omega
theorem o_min2 {a b : Int} : prim .min [.int a, .int b] = .ok (.int (min a b)) := by
  show Res.ok (PyData.int (if b < a then b else a)) = _
  congr 2
  omega
theorem ixOf_pos {n : Nat} {i : Int} (h0 : 0 ≤ i) (h1 : i < n) : ixOf n i = some i.toNat := by
  unfold ixOf
  rw [if_pos h0, if_pos h1]
theorem ixOf_m1 {n : Nat} (h : 0 < n) : ixOf n (-1) = some (n - 1) := by
  unfold ixOf
  rw [if_neg (by decide), if_pos (by omega)]
  congr 1
  omega
theorem o_idx_l {xs : List D} {i : Int} {d : D} (h0 : 0 ≤ i) (h : xs[i.toNat]? = some d) : prim .idx [.list xs, .int i] = .ok d := by
  have h1 : i < xs.length := by
    have := (List.getElem?_eq_some_iff.mp h).1
    omega
  show Res.ofO ((ixOf xs.length i).bind fun j => xs[j]?) = _
  rw [ixOf_pos h0 h1, Option.bind_some, h]
  rfl
theorem o_idx_t {xs : List D} {i : Int} {d : D} (h0 : 0 ≤ i) (h : xs[i.toNat]? = some d) : prim .idx [.tuple xs, .int i] = .ok d := o_idx_l h0 h
theorem o_idx_last {xs : List D} {d : D} (h : xs[xs.length - 1]? = some d) : prim .idx [.list xs, .int (-1)] = .ok d := by
  have h1 : 0 < xs.length := by
    have := (List.getElem?_eq_some_iff.mp h).1
    omega
  show Res.ofO ((ixOf xs.length (-1)).bind fun j => xs[j]?) = _
  rw [ixOf_m1 h1, Option.bind_some, h]
  rfl
theorem o_idx_0 {x : D} {xs : List D} : prim .idx [.list (x :: xs), .int 0] = .ok x := o_idx_l (Int.le_refl _) rfl
theorem o_idx_1 {x y : D} {xs : List D} : prim .idx [.list (x :: y :: xs), .int 1] = .ok y := o_idx_l (by decide) rfl
theorem o_idx_2 {x y z : D} {xs : List D} : prim .idx [.list (x :: y :: z :: xs), .int 2] = .ok z := o_idx_l (by decide) rfl
theorem o_idx_3 {x y z u : D} {xs : List D} : prim .idx [.list (x :: y :: z :: u :: xs), .int 3] = .ok u := o_idx_l (by decide) rfl
theorem o_idx_4 {x y z u w : D} {xs : List D} : prim .idx [.list (x :: y :: z :: u :: w :: xs), .int 4] = .ok w := o_idx_l (by decide) rfl
theorem o_idx_5 {x y z u w v : D} {xs : List D} : prim .idx [.list (x :: y :: z :: u :: w :: v :: xs), .int 5] = .ok v := o_idx_l (by decide) rfl
theorem ite_int {c : Prop} {_ : Decidable c} {a b : Int} {ε : MEnv} : (if c then Res.ok (PyData.int a, ε) else Res.ok (PyData.int b, ε)) = Res.ok (PyData.int (if c then a else b), ε) := by
  split <;> rfl
theorem and_d {c : Prop} {i j : Decidable c} {x : Res (D × MEnv)} {ε : MEnv} : (@ite _ c i x (Res.ok (PyData.bool (@decide c j), ε))) = @ite _ c i x (Res.ok (PyData.bool false, ε)) := by
  split
  · rfl
  · rename_i h
    rw [decide_eq_false h]
theorem and_b {k : Bool} {x : Res (D × MEnv)} {ε : MEnv} : (if k = true then x else Res.ok (PyData.bool k, ε)) = if k = true then x else Res.ok (PyData.bool false, ε) := by
  cases k <;> rfl
theorem or_d {c : Prop} {i j : Decidable c} {x : Res (D × MEnv)} {ε : MEnv} : (@ite _ c i (Res.ok (PyData.bool (@decide c j), ε)) x) = @ite _ c i (Res.ok (PyData.bool true, ε)) x := by
  split
  · rename_i h
    rw [decide_eq_true h]
  · rfl
theorem or_b {k : Bool} {x : Res (D × MEnv)} {ε : MEnv} : (if k = true then Res.ok (PyData.bool k, ε) else x) = if k = true then Res.ok (PyData.bool true, ε) else x := by
  cases k <;> rfl
theorem set_ints {ns : List Int} {j : Nat} {x : Int} : (ns.map PyData.int).set j (.int x) = (ns.set j x).map PyData.int := List.map_set.symm
theorem app_ints {ns : List Int} {x : Int} : ns.map PyData.int ++ [.int x] = (ns ++ [x]).map PyData.int := by
  rw [List.map_append]
  rfl
theorem o_ne_nil {xs : List D} : prim .ne [.list xs, .list []] = .ok (.bool (!xs.isEmpty)) := by
  show ((Res.guard (dOk (.list xs) (.list [])) >>= fun _ => .ok (PyData.eqv (.list xs) (.list []))) >>= fun r => Res.ok (PyData.bool (!r))) = _
  rw [guard_of (by unfold dOk; simp [PyData.depth, PyData.depthAll])]
  cases xs <;> simp [bind_ok, PyData.eqv, PyData.eqvAll]
theorem take_min {α : Type} (xs : List α) (k : Nat) : xs.take (min k xs.length) = xs.take k := by
  rw [Nat.min_def]
  split
  · rfl
  · rw [List.take_length, List.take_of_length_le (by omega)]
theorem drop_min {α : Type} (xs : List α) (k : Nat) : xs.drop (min k xs.length) = xs.drop k := by
  rw [Nat.min_def]
  split
  · rfl
  · rw [List.drop_length, List.drop_eq_nil_of_le (by omega)]
theorem cutL_hi {α : Type} (xs : List α) {j : Int} (h : 0 ≤ j) : cutL xs (loOf xs.length none) (hiOf xs.length (some j)) = xs.take j.toNat := by
  show (xs.drop 0).take ((if 0 ≤ j then min j.toNat xs.length else (j + xs.length).toNat) - 0) = _
  rw [if_pos h, List.drop_zero, Nat.sub_zero, take_min]
theorem cutL_lo {α : Type} (xs : List α) {j : Int} (h : 0 ≤ j) : cutL xs (loOf xs.length (some j)) (hiOf xs.length none) = xs.drop j.toNat := by
  show (xs.drop (if 0 ≤ j then min j.toNat xs.length else (j + xs.length).toNat)).take (xs.length - (if 0 ≤ j then min j.toNat xs.length else (j + xs.length).toNat)) = _
  rw [if_pos h, drop_min]
  refine List.take_of_length_le ?_
  rw [List.length_drop]
  omega
theorem cutL_mid {α : Type} (xs : List α) {i j : Int} (hi : 0 ≤ i) (hj : 0 ≤ j) (hl : j ≤ xs.length) : cutL xs (loOf xs.length (some i)) (hiOf xs.length (some j)) = (xs.drop i.toNat).take (j.toNat - i.toNat) := by
  show (xs.drop (if 0 ≤ i then min i.toNat xs.length else (i + xs.length).toNat)).take ((if 0 ≤ j then min j.toNat xs.length else (j + xs.length).toNat) - (if 0 ≤ i then min i.toNat xs.length else (i + xs.length).toNat)) = _
  rw [if_pos hi, if_pos hj, drop_min, Nat.min_eq_left (show j.toNat ≤ xs.length by omega)]
  by_cases h : i.toNat ≤ xs.length
  · rw [Nat.min_eq_left h]
  · rw [List.drop_eq_nil_of_le (by omega), List.take_nil, List.take_nil]
theorem cut_hi {xs : List D} {j : Int} (h : 0 ≤ j) : pCut (.list xs) none (some j) = .ok (.list (xs.take j.toNat)) := congrArg (fun l => Res.ok (PyData.list l)) (cutL_hi xs h)
theorem cut_lo {xs : List D} {j : Int} (h : 0 ≤ j) : pCut (.list xs) (some j) none = .ok (.list (xs.drop j.toNat)) := congrArg (fun l => Res.ok (PyData.list l)) (cutL_lo xs h)
theorem cut_hi_t {xs : List D} {j : Int} (h : 0 ≤ j) : pCut (.tuple xs) none (some j) = .ok (.tuple (xs.take j.toNat)) := congrArg (fun l => Res.ok (PyData.tuple l)) (cutL_hi xs h)
theorem cut_lo_t {xs : List D} {j : Int} (h : 0 ≤ j) : pCut (.tuple xs) (some j) none = .ok (.tuple (xs.drop j.toNat)) := congrArg (fun l => Res.ok (PyData.tuple l)) (cutL_lo xs h)
theorem cut_mid {xs : List D} {i j : Int} (hi : 0 ≤ i) (hj : 0 ≤ j) (hl : j ≤ xs.length) : pCut (.list xs) (some i) (some j) = .ok (.list ((xs.drop i.toNat).take (j.toNat - i.toNat))) := congrArg (fun l => Res.ok (PyData.list l)) (cutL_mid xs hi hj hl)
theorem cut_mid_t {xs : List D} {i j : Int} (hi : 0 ≤ i) (hj : 0 ≤ j) (hl : j ≤ xs.length) : pCut (.tuple xs) (some i) (some j) = .ok (.tuple ((xs.drop i.toNat).take (j.toNat - i.toNat))) := congrArg (fun l => Res.ok (PyData.tuple l)) (cutL_mid xs hi hj hl)
theorem rep_ok {x : D} {k : Int} (h0 : k ≤ 10000) (h1 : -10000 ≤ k) : pRepL x (.int k) = .ok (.list (List.replicate k.toNat x)) := by
  show (Res.guard (decide (k.natAbs < 2 ^ 62) && fitN k.toNat) >>= fun _ => Res.ok (PyData.list (List.replicate k.toNat x))) = _
  rw [guard_of (by
    rw [Bool.and_eq_true]
    exact ⟨decide_eq_true (by omega), decide_eq_true (Nat.le_trans (show k.toNat ≤ 10000 by omega) (by decide))⟩)]
  rfl
theorem pop_last {xs : List D} {x : D} : popD (xs ++ [x]) [] = .ok (x, xs) := by
  show (Res.ofO ((xs ++ [x])[(xs ++ [x]).length - 1]?) >>= fun y => Res.ok (y, (xs ++ [x]).dropLast)) = _
  rw [List.length_append, List.length_singleton, Nat.add_sub_cancel, List.getElem?_append_right (Nat.le_refl _), Nat.sub_self, List.dropLast_concat]
  rfl
theorem pop_at {xs : List D} {i : Int} {y : D} (h0 : 0 ≤ i) (h1 : i < 2 ^ 61) (h : xs[i.toNat]? = some y) : popD xs [.int i] = .ok (y, xs.eraseIdx i.toNat) := by
  have h2 : i < xs.length := by
    have := (List.getElem?_eq_some_iff.mp h).1
    omega
  show (Res.guard (decide (i.natAbs < 2 ^ 62)) >>= fun _ => Res.ofO (ixOf xs.length i) >>= fun j => Res.ofO xs[j]? >>= fun y => Res.ok (y, xs.eraseIdx j)) = _
  rw [guard_of (decide_eq_true (by omega)), bind_ok, ixOf_pos h0 h2, ofO_some, bind_ok, h]
  rfl
theorem it_rng1 {n : Int} (h : rngOk n = true) : iterF .rng [.int n] = .ok (upFrom 0 n.toNat) := by
  show (Res.guard (rngOk n) >>= fun _ => Res.ok (upFrom 0 n.toNat)) = _
  rw [guard_of h]
  rfl
theorem it_rng2 {a b : Int} (h1 : rngOk a = true) (h2 : rngOk b = true) : iterF .rng [.int a, .int b] = .ok (upFrom a (b - a).toNat) := by
  show (Res.guard (rngOk a && rngOk b) >>= fun _ => Res.ok (upFrom a (b - a).toNat)) = _
  rw [guard_of (by rw [h1, h2]; rfl)]
  rfl
theorem rngOk_s {i : Int} (h1 : -(2 ^ 62) ≤ i) (h2 : i < 2 ^ 62) : rngOk i = true := by
  unfold rngOk
  rw [Bool.and_eq_true, decide_eq_true_iff, decide_eq_true_iff]
  exact ⟨h1, h2⟩
theorem it_seq_l {xs : List D} : iterF .seq [.list xs] = .ok xs := (Eq.trans rfl rfl)
theorem it_seq_t {xs : List D} : iterF .seq [.tuple xs] = .ok xs := (Eq.trans rfl rfl)
theorem ix_0 {n : Nat} : ixOf (n + 1) 0 = some 0 := ixOf_pos (Int.le_refl _) (by omega)
theorem ix_1 {n : Nat} : ixOf (n + 1 + 1) 1 = some 1 := ixOf_pos (by decide) (by omega)
theorem ix_2 {n : Nat} : ixOf (n + 1 + 1 + 1) 2 = some 2 := ixOf_pos (by decide) (by omega)
theorem g_fit {n : Nat} (h : n ≤ 1000) : Res.guard (fitN n) = .ok () := guard_of (decide_eq_true (Nat.le_trans h (by decide)))
theorem g_app {n : Nat} (h : n ≤ 1000) : Res.guard (decide (n < sizeLine)) = .ok () := guard_of (decide_eq_true (Nat.lt_of_le_of_lt h (by decide)))
theorem lset_z {x y : D} {xs : List D} : (x :: xs).set 0 y = y :: xs := (Eq.trans rfl rfl)
theorem lset_s {x y : D} {xs : List D} {n : Nat} : (x :: xs).set (n + 1) y = x :: xs.set n y := (Eq.trans rfl rfl)
theorem tru_b {b : Bool} : truD (.bool b) = .ok b := (Eq.trans rfl rfl)
theorem tru_i {i : Int} : truD (.int i) = .ok (i != 0) := (Eq.trans rfl rfl)
/-- what a def's end answers -/
def endQ (ms : List Nat) (Q : D × List D → Prop) : Flow → Prop
  | .rt d ε => Ok (lookAll ε ms) fun ws => Q (d, ws)
  | .nx ε => Ok (lookAll ε ms) fun ws => Q (.none, ws)
theorem endQ_rt {ms : List Nat} {Q : D × List D → Prop} {d : D} {ε : MEnv} : endQ ms Q (.rt d ε) ↔ Ok (lookAll ε ms) fun ws => Q (d, ws) := Iff.rfl
theorem endQ_nx {ms : List Nat} {Q : D × List D → Prop} {ε : MEnv} : endQ ms Q (.nx ε) ↔ Ok (lookAll ε ms) fun ws => Q (.none, ws) := Iff.rfl
/-- a call, by its def -/
theorem call_ok {T : List FDef} {M n f : Nat} {ds : List D} {fd : FDef} {Q : D × List D → Prop} (h : T[f]? = some fd) (hl : ds.length = fd.np)
    (hb : Ok (evB (callF T M n) M fd.body (ds.map some ++ List.replicate (fd.ns - fd.np) none)) (endQ fd.muts Q)) : Ok (callF T M (n + 1) f ds) Q := by
  show Ok (match T[f]? with | some fd => runF (callF T M n) M fd ds | none => .bad) Q
  rw [h]
  show Ok (Res.guard (decide (ds.length = fd.np)) >>= fun _ => evB (callF T M n) M fd.body (ds.map some ++ List.replicate (fd.ns - fd.np) none) >>= fun fl => match fl with
    | .rt d ε => lookAll ε fd.muts >>= fun ws => .ok (d, ws)
    | .nx ε => lookAll ε fd.muts >>= fun ws => .ok (.none, ws)) Q
  rw [guard_of (decide_eq_true hl), bind_ok, ok_bind]
  refine hb.mono fun fl q => ?_
  cases fl with
  | rt d ε => exact ok_bind.mpr (Ok.mono (endQ_rt.mp q) fun ws q => ok_ok.mpr q)
  | nx ε => exact ok_bind.mpr (Ok.mono (endQ_nx.mp q) fun ws q => ok_ok.mpr q)
theorem la_nil {ε : MEnv} : lookAll ε [] = .ok [] := (Eq.trans rfl rfl)
theorem la_cons {ε : MEnv} {i : Nat} {is : List Nat} : lookAll ε (i :: is) = (look ε i >>= fun d => lookAll ε is >>= fun ds => .ok (d :: ds)) := (Eq.trans rfl rfl)
theorem wipe_1 {ε : MEnv} {i : Nat} : wipeE ε [i] = ε.set i none := (Eq.trans rfl rfl)
theorem slots_nm {i : Nat} : (Tg.nm i).slots = [i] := (Eq.trans rfl rfl)
theorem cmpF_nm {cl : Cl} {i : Nat} {cs : List IE} {e : IE} {x : D} {ε : MEnv} : cmpF cl (.nm i) cs e x ε = (evTs cl cs ((ε.set i none).set i (some x)) >>= fun q => if q.1 = true then ev cl false e q.2 >>= fun p => .ok (some p.1, p.2) else .ok (none, q.2)) := (Eq.trans rfl rfl)
theorem back_z {x y : Option D} {ε ε' : MEnv} : backE (x :: ε) (y :: ε') [0] = x :: ε' := (Eq.trans rfl rfl)
theorem back_s {x y : Option D} {ε ε' : MEnv} {n : Nat} : backE (x :: ε) (y :: ε') [n + 1] = y :: backE ε ε' [n] := by
  show (y :: ε').set (n + 1) ((x :: ε)[n + 1]?.getD none) = _
  rw [List.getElem?_cons_succ, List.set_cons_succ]
  rfl
theorem slots_tp {is : List Nat} : (Tg.tp is).slots = is := (Eq.trans rfl rfl)
theorem wipe_nil {ε : MEnv} : wipeE ε [] = ε := (Eq.trans rfl rfl)
theorem wipe_cons {ε : MEnv} {i : Nat} {is : List Nat} : wipeE ε (i :: is) = (wipeE ε is).set i none := (Eq.trans rfl rfl)
theorem back_nil {ε ε' : MEnv} : backE ε ε' [] = ε' := (Eq.trans rfl rfl)
theorem back_cons {ε ε' : MEnv} {i : Nat} {is : List Nat} : backE ε ε' (i :: is) = (backE ε ε' is).set i (ε[i]?.getD none) := (Eq.trans rfl rfl)
theorem cmpF_tp {cl : Cl} {is : List Nat} {cs : List IE} {e : IE} {xs : List D} {ε : MEnv} (h : xs.length = is.length) : cmpF cl (.tp is) cs e (.tuple xs) ε = (evTs cl cs (setAll (wipeE ε is) is xs) >>= fun q => if q.1 = true then ev cl false e q.2 >>= fun p => .ok (some p.1, p.2) else .ok (none, q.2)) := by
  show ((if xs.length = is.length then .ok (setAll (wipeE ε is) is xs) else .bad) >>= fun ε3 => evTs cl cs ε3 >>= fun q => if q.1 = true then ev cl false e q.2 >>= fun p => .ok (some p.1, p.2) else .ok (none, q.2)) = _
  rw [if_pos h]
  rfl
theorem gz {x : Option D} {ε : MEnv} : (x :: ε)[0]? = some x := (Eq.trans rfl rfl)
theorem gs {x : Option D} {ε : MEnv} {n : Nat} : (x :: ε)[n + 1]? = ε[n]? := (Eq.trans rfl rfl)
theorem gd {x : Option D} : (some x).getD none = x := (Eq.trans rfl rfl)
theorem it_enum_t {xs : List D} : iterF .enum [.tuple xs] = .ok (enumFrom 0 xs) := (Eq.trans rfl rfl)
theorem it_enum_l {xs : List D} : iterF .enum [.list xs] = .ok (enumFrom 0 xs) := (Eq.trans rfl rfl)
theorem enum_at {xs : List D} {i : Nat} {x : D} (h : (enumFrom 0 xs)[i]? = some x) : ∃ d, xs[i]? = some d ∧ x = .tuple [.int (i : Int), d] := by
  have hi : i < xs.length := by
    have := (List.getElem?_eq_some_iff.mp h).1
    rwa [enum_len] at this
  have e := List.getElem?_eq_getElem hi
  have g := enum_get xs 0 i _ e
  rw [h, Int.zero_add] at g
  exact ⟨_, e, Option.some.inj g⟩
/-- the tape, with its spot and what is left -/
def tp (ns : List Int) (s l : Int) : D := .list [.list (ns.map PyData.int), .int s, .int l]
/-- the feed: its cell, its turn, what is left -/
def fd (c t l : Int) : D := .list [.int c, .int t, .int l]
theorem isLd_fd {c t l : Int} : isLd (fd c t l) = true := (Eq.trans rfl rfl)
theorem isLd_tp {ns : List Int} {s l : Int} : isLd (tp ns s l) = true := (Eq.trans rfl rfl)
/-- all of these in one -/
def mirS := And.intro (And.intro (And.intro (And.intro (And.intro (And.intro (And.intro @ok_bind @ok_ok) (And.intro @ok_bad (And.intro @bind_ok @bind_bind))) (And.intro (And.intro @pure_is @guard_true) (And.intro @ofO_some (And.intro @look_z @look_s)))) (And.intro (And.intro (And.intro @set_z @set_s) (And.intro @fin_f (And.intro @fin_t @resolve_nil))) (And.intro (And.intro @resolve_val (And.intro @resolve_sl @setAll_nil)) (And.intro @setAll_cons (And.intro @setTg_nm @isLa_z))))) (And.intro (And.intro (And.intro (And.intro @isLa_s @isLd_list) (And.intro @e_c (And.intro @e_v @e_o))) (And.intro (And.intro @e_mv (And.intro @e_p @e_call)) (And.intro @e_and (And.intro @e_or @e_not)))) (And.intro (And.intro (And.intro @e_ifx @e_chain) (And.intro @e_chain3 (And.intro @e_comp @e_disp_t))) (And.intro (And.intro @e_disp_f (And.intro @e_pop @e_rep)) (And.intro @e_mth (And.intro @cut1_one @e_cut)))))) (And.intro (And.intro (And.intro (And.intro (And.intro @a_nil @a_o) (And.intro @a_c (And.intro @a_v @a_mv))) (And.intro (And.intro @a_p (And.intro @a_call @a_and)) (And.intro @a_or (And.intro @a_not @a_ifx)))) (And.intro (And.intro (And.intro @a_chain @a_chain3) (And.intro @a_comp (And.intro @a_pop @a_disp))) (And.intro (And.intro @a_rep (And.intro @a_mth @a_cut)) (And.intro @p_nil (And.intro @p_one @t_nil))))) (And.intro (And.intro (And.intro (And.intro @t_cons @boolOf_b) (And.intro @intOf_i (And.intro @listOf_l @seqOf_l))) (And.intro (And.intro @seqOf_t (And.intro @s_set @s_par)) (And.intro @s_sub (And.intro @s_app @s_ext)))) (And.intro (And.intro (And.intro @s_ex @s_ite) (And.intro @s_for (And.intro @s_ret @s_pass))) (And.intro (And.intro @forF_nm (And.intro @contB_nx @contB_rt)) (And.intro @okB_nil (And.intro @okB_cons @stepQ_nx))))))) (And.intro (And.intro (And.intro (And.intro (And.intro (And.intro @stepQ_rt @o_mul_l) (And.intro @o_mul_r (And.intro @o_fdiv_s @o_mod))) (And.intro (And.intro @o_pow (And.intro @o_add @o_sub)) (And.intro @o_neg (And.intro @o_lt @o_le)))) (And.intro (And.intro (And.intro @o_gt @o_ge) (And.intro @o_eq (And.intro @o_ne @o_len_l))) (And.intro (And.intro @o_len_t (And.intro @o_tuple_l @o_tuple_t)) (And.intro @o_list_l (And.intro @o_list_t @o_int_b))))) (And.intro (And.intro (And.intro (And.intro @o_int_i @o_max2) (And.intro @o_min2 (And.intro @o_idx_0 @o_idx_1))) (And.intro (And.intro @o_idx_2 (And.intro @o_ne_nil @it_seq_l)) (And.intro @it_seq_t (And.intro @ix_0 @ix_1)))) (And.intro (And.intro (And.intro @ix_2 @lset_z) (And.intro @lset_s (And.intro @tru_b @tru_i))) (And.intro (And.intro @endQ_rt (And.intro @endQ_nx @la_nil)) (And.intro @la_cons (And.intro @g_fit @g_app)))))) (And.intro (And.intro (And.intro (And.intro (And.intro @slots_nm @slots_tp) (And.intro @wipe_nil (And.intro @wipe_cons @cmpF_nm))) (And.intro (And.intro @cmpF_tp (And.intro @back_nil @back_cons)) (And.intro @gz (And.intro @gs @gd)))) (And.intro (And.intro (And.intro @it_enum_t @it_enum_l) (And.intro @isLd_tp (And.intro @isLd_fd @o_idx_3))) (And.intro (And.intro @o_idx_4 (And.intro @o_idx_5 @ite_int)) (And.intro @set_ints (And.intro @app_ints @and_d))))) (And.intro (And.intro (And.intro (And.intro @and_b @or_d) (And.intro @or_b (And.intro @e_dget @e_din))) (And.intro (And.intro @e_callD (And.intro @e_rg @dictOf_k)) (And.intro @dictOf_t (And.intro @key_i @key_s)))) (And.intro (And.intro (And.intro @isLd_k @isLd_t) (And.intro @a_od (And.intro @a_dget @a_din))) (And.intro (And.intro @a_callD (And.intro @a_rg @s_dnew)) (And.intro @s_dof (And.intro @s_dput @s_nat)))))))
end Mir.P
/-! Mir, part Q: the tape and its draws. -/
namespace Mir.P
open PySem
set_option maxHeartbeats 2000000
def tapeD : FDef := ⟨1, 1, [], [.ret (.disp false [.cut [.o 0] [] [.c (.int 63)], .c (.int 0), .c (.int 0)])]⟩
def drawD : FDef := ⟨2, 6, [0], [.ite (.p .gt [.p .idx [.o 0, .c (.int 2)], .c (.int 0)]) [.set (.nm 2) (.p .mod [.p .idx [.o 0, .c (.int 2)], .o 1]),
.sub 0 (.c (.int 2)) (.p .fdiv [.p .idx [.o 0, .c (.int 2)], .o 1]),
.ret (.mv 2)] [],
.set (.nm 3) (.p .idx [.o 0, .c (.int 1)]),
.sub 0 (.c (.int 1)) (.p .add [.o 3, .c (.int 1)]),
.set (.nm 4) (.c (.int 0)),
.ite (.p .ne [.p .idx [.o 0, .c (.int 0)], .disp false []]) [.set (.nm 4) (.p .idx [.p .idx [.o 0, .c (.int 0)], .p .mod [.o 3, .p .len [.p .idx [.o 0, .c (.int 0)]]]])] [],
.ite (.and (.p .ge [.o 4, .p .pow [.c (.int 10), .c (.int 18)]]) (.p .lt [.o 3, .p .len [.p .idx [.o 0, .c (.int 0)]]])) [.sub 0 (.c (.int 2)) (.p .fdiv [.o 4, .o 1]),
.ret (.p .mod [.o 4, .o 1])] [],
.set (.nm 5) (.p .mod [.p .mul [.p .add [.p .add [.p .mod [.o 4, .c (.int 999983)], .p .mul [.p .mul [.c (.int 31), .o 3], .o 3]], .c (.int 17)], .c (.int 48271)], .c (.int 2147483647)]),
.set (.nm 5) (.p .mod [.p .mul [.p .add [.p .fdiv [.o 5, .c (.int 64)], .p .mul [.c (.int 7919), .o 3]], .c (.int 69621)], .c (.int 2147483629)]),
.ret (.p .mod [.p .mod [.p .mul [.p .fdiv [.o 5, .c (.int 64)], .p .add [.p .fdiv [.o 5, .c (.int 4096)], .c (.int 1)]], .c (.int 1000003)], .o 1])]⟩
theorem draw_ok {T : List FDef} {M n i : Nat} (hT : T[i]? = some drawD) {ns : List Int} {spot left many : Int} (h0 : 0 ≤ spot) (h1 : spot < 2 ^ 40) (hm : 0 < many) (hd : many < 2 ^ 8999) :
    Ok (callF T M (n + 1) i [tp ns spot left, .int many]) fun p => ∃ v s l, p = (.int v, [tp ns s l]) ∧ 0 ≤ v ∧ v < many ∧ spot ≤ s ∧ s ≤ spot + 1 := by
  have hdv := divOk_s hm hd
  have m1 : -9223372036854775808 ≤ spot := by omega
  have m2 : spot < 9223372036854775808 := by omega
  have m3 : ∀ X : Int, -9223372036854775808 ≤ X % 2147483629 / 64 := fun X => by omega
  have m4 : ∀ X : Int, X % 2147483629 / 64 < 9223372036854775808 := fun X => by omega
  have v0 : ∀ X : Int, 0 ≤ X % many := fun X => Int.emod_nonneg _ (by omega)
  have v1 : ∀ X : Int, X % many < many := fun X => Int.emod_lt_of_pos _ hm
  refine call_ok hT rfl ?_
  unfold drawD tp
  simp only [mirS, List.all_cons, List.all_nil, Bool.and_true, Bool.true_and, decide_true, List.length_cons, List.length_nil, decide_eq_true_eq, Nat.zero_le, Nat.reduceLeDiff, Int.reduceLE, Int.reduceLT, Int.reducePow, Int.reduceNeg, Int.reduceToNat, ↓reduceIte, Bool.false_eq_true, Option.toList_some, Option.toList_none, List.append_nil, List.length_map, List.map_cons, List.map_nil, List.cons_append, List.nil_append, Nat.reduceSub, List.replicate]
  refine ok_cases (fun h => ?_) fun h => ?_
  · simp only [mirS, List.all_cons, List.all_nil, Bool.and_true, Bool.true_and, decide_true, List.length_cons, List.length_nil, decide_eq_true_eq, Nat.zero_le, Nat.reduceLeDiff, Int.reduceLE, Int.reduceLT, Int.reducePow, Int.reduceNeg, Int.reduceToNat, ↓reduceIte, Bool.false_eq_true, Option.toList_some, Option.toList_none, List.append_nil, List.length_map, o_mod hm, o_fdiv hm hdv]
    exact ⟨_, _, _, rfl, v0 _, v1 _, by omega, by omega⟩
  · simp only [mirS, List.all_cons, List.all_nil, Bool.and_true, Bool.true_and, decide_true, List.length_cons, List.length_nil, decide_eq_true_eq, Nat.zero_le, Nat.reduceLeDiff, Int.reduceLE, Int.reduceLT, Int.reducePow, Int.reduceNeg, Int.reduceToNat, ↓reduceIte, Bool.false_eq_true, Option.toList_some, Option.toList_none, List.append_nil, List.length_map]
    refine ok_cases (fun h2 => ?_) fun h2 => ?_
    · have hl : 0 < ns.length := by
        cases ns with
        | nil => cases h2
        | cons x xs => exact Nat.succ_pos _
      have hl2 : (0 : Int) < (ns.length : Int) := by omega
      have i0 : 0 ≤ spot % (ns.length : Int) := Int.emod_nonneg _ (by omega)
      have i1 : spot % (ns.length : Int) < ns.length := Int.emod_lt_of_pos _ hl2
      have i2 : (spot % (ns.length : Int)).toNat < ns.length := by
        omega
      have i3 : (ns.map PyData.int)[(spot % (ns.length : Int)).toNat]? = some (.int (ns[(spot % (ns.length : Int)).toNat]'i2)) := by
        rw [List.getElem?_map, List.getElem?_eq_getElem i2]
        rfl
      simp only [mirS, List.all_cons, List.all_nil, Bool.and_true, Bool.true_and, decide_true, List.length_cons, List.length_nil, decide_eq_true_eq, Nat.zero_le, Nat.reduceLeDiff, Int.reduceLE, Int.reduceLT, Int.reducePow, Int.reduceNeg, Int.reduceToNat, ↓reduceIte, Bool.false_eq_true, Option.toList_some, Option.toList_none, List.append_nil, List.length_map, o_mod hl2, o_idx_l i0 i3]
      generalize ns[(spot % (ns.length : Int)).toNat]'i2 = z
      refine ok_cases (fun h3 => ?_) fun h3 => ?_
      · simp only [mirS, List.all_cons, List.all_nil, Bool.and_true, Bool.true_and, decide_true, List.length_cons, List.length_nil, decide_eq_true_eq, Nat.zero_le, Nat.reduceLeDiff, Int.reduceLE, Int.reduceLT, Int.reducePow, Int.reduceNeg, Int.reduceToNat, ↓reduceIte, Bool.false_eq_true, Option.toList_some, Option.toList_none, List.append_nil, List.length_map]
        refine ok_cases (fun h4 => ?_) fun h4 => ?_
        · simp only [mirS, List.all_cons, List.all_nil, Bool.and_true, Bool.true_and, decide_true, List.length_cons, List.length_nil, decide_eq_true_eq, Nat.zero_le, Nat.reduceLeDiff, Int.reduceLE, Int.reduceLT, Int.reducePow, Int.reduceNeg, Int.reduceToNat, ↓reduceIte, Bool.false_eq_true, Option.toList_some, Option.toList_none, List.append_nil, List.length_map, o_mod hm, o_fdiv hm hdv]
          exact ⟨_, _, _, rfl, v0 _, v1 _, by omega, by omega⟩
        · simp only [mirS, List.all_cons, List.all_nil, Bool.and_true, Bool.true_and, decide_true, List.length_cons, List.length_nil, decide_eq_true_eq, Nat.zero_le, Nat.reduceLeDiff, Int.reduceLE, Int.reduceLT, Int.reducePow, Int.reduceNeg, Int.reduceToNat, ↓reduceIte, Bool.false_eq_true, Option.toList_some, Option.toList_none, List.append_nil, List.length_map, m1, m2, m3, m4, o_mod hm]
          exact ⟨_, _, _, rfl, v0 _, v1 _, by omega, by omega⟩
      · simp only [mirS, List.all_cons, List.all_nil, Bool.and_true, Bool.true_and, decide_true, List.length_cons, List.length_nil, decide_eq_true_eq, Nat.zero_le, Nat.reduceLeDiff, Int.reduceLE, Int.reduceLT, Int.reducePow, Int.reduceNeg, Int.reduceToNat, ↓reduceIte, Bool.false_eq_true, Option.toList_some, Option.toList_none, List.append_nil, List.length_map, m1, m2, m3, m4, o_mod hm, if_neg Bool.false_ne_true]
        exact ⟨_, _, _, rfl, v0 _, v1 _, by omega, by omega⟩
    · simp only [mirS, List.all_cons, List.all_nil, Bool.and_true, Bool.true_and, decide_true, List.length_cons, List.length_nil, decide_eq_true_eq, Nat.zero_le, Nat.reduceLeDiff, Int.reduceLE, Int.reduceLT, Int.reducePow, Int.reduceNeg, Int.reduceToNat, ↓reduceIte, Bool.false_eq_true, Option.toList_some, Option.toList_none, List.append_nil, List.length_map]
      simp only [mirS, List.all_cons, List.all_nil, Bool.and_true, Bool.true_and, decide_true, List.length_cons, List.length_nil, decide_eq_true_eq, Nat.zero_le, Nat.reduceLeDiff, Int.reduceLE, Int.reduceLT, Int.reducePow, Int.reduceNeg, Int.reduceToNat, ↓reduceIte, Bool.false_eq_true, Option.toList_some, Option.toList_none, List.append_nil, List.length_map, m1, m2, m3, m4, o_mod hm, if_neg Bool.false_ne_true, reduceIte]
      exact ⟨_, _, _, rfl, v0 _, v1 _, by omega, by omega⟩
theorem tape_ok {T : List FDef} {M n i : Nat} (hT : T[i]? = some tapeD) {ns : List Int} (h : ns.length ≤ 63) : Ok (callF T M (n + 1) i [.list (ns.map PyData.int)]) fun p => p = (tp ns 0 0, []) := by
  refine call_ok hT rfl ?_
  unfold tapeD tp
  simp only [mirS, List.all_cons, List.all_nil, Bool.and_true, Bool.true_and, decide_true, List.length_cons, List.length_nil, decide_eq_true_eq, Nat.zero_le, Nat.reduceLeDiff, Int.reduceLE, Int.reduceLT, Int.reducePow, Int.reduceNeg, Int.reduceToNat, ↓reduceIte, Bool.false_eq_true, Option.toList_some, Option.toList_none, List.append_nil, List.length_map, List.map_cons, List.map_nil, List.cons_append, List.nil_append, Nat.reduceSub, List.replicate]
  rw [cut_hi (by decide), ok_ok, List.take_of_length_le]
  rw [List.length_map]
  exact h
end Mir.P
/-! Mir, part R: repr of small things. -/
namespace Mir.P
open PySem
mutual
/-- numbers of fewer than 1920 bits, None, booleans, lists and tuples of such -/
def smp : D → Bool
  | .none => true
  | .bool _ => true
  | .int i => decide (i.natAbs.log2 < 1920)
  | .list xs => smpL xs
  | .tuple xs => smpL xs
  | .str x => (PyData.str x).showable && decide ((PyData.str x).shown.length + 2 ≤ 2000)
  | .dict _ => false
def smpL : List D → Bool
  | [] => true
  | x :: xs => smp x && smpL xs
end
mutual
def nodes : D → Nat
  | .list xs => 1 + nodesL xs
  | .tuple xs => 1 + nodesL xs
  | _ => 1
def nodesL : List D → Nat
  | [] => 0
  | x :: xs => nodes x + nodesL xs
end
mutual
theorem smp_show : ∀ d : D, smp d = true → d.showable = true
  | .none, _ => by simp [PyData.showable]
  | .bool _, _ => by simp [PyData.showable]
  | .int i, h => by simpa [PyData.showable, smp] using h
  | .list xs, h => by
    have h : smpL xs = true := by simpa [smp] using h
    simpa [PyData.showable] using smpL_show xs h
  | .tuple xs, h => by
    have h : smpL xs = true := by simpa [smp] using h
    simpa [PyData.showable] using smpL_show xs h
  | .str x, h => by
    rw [smp, Bool.and_eq_true] at h
    exact h.1
  | .dict _, h => by simp [smp] at h
theorem smpL_show : ∀ xs : List D, smpL xs = true → PyData.showableAll xs = true
  | [], _ => by simp [PyData.showableAll]
  | x :: xs, h => by
    simp only [smpL, Bool.and_eq_true] at h
    simp only [PyData.showableAll, Bool.and_eq_true]
    exact ⟨smp_show x h.1, smpL_show xs h.2⟩
end
theorem join_len : ∀ (k : Nat) (ts : List Str) (n : Nat), (∀ t ∈ ts, t.length + 2 ≤ k) → (Str.join ", " ts).length ≤ k * ts.length
  | k, [], n, _ => by show (0 : Nat) ≤ _; omega
  | k, [t], n, h => by
    have := h t (List.mem_singleton.mpr rfl)
    show t.length ≤ k * 1
    omega
  | k, t :: u :: r, n, h => by
    have h1 := h t (List.mem_cons_self ..)
    have h2 := join_len k (u :: r) n fun x hx => h x (List.mem_cons_of_mem _ hx)
    show (t ++ (", " : Str) ++ Str.join ", " (u :: r)).length ≤ _
    rw [Str.length_append, Str.length_append]
    have e : ((", " : Str)).length = 2 := by decide +kernel
    rw [e, List.length_cons, Nat.mul_add]
    omega
def lenL : List Str → Nat
  | [] => 0
  | t :: ts => t.length + 2 + lenL ts
theorem join_lenL : ∀ ts : List Str, (Str.join ", " ts).length ≤ lenL ts
  | [] => Nat.le_refl 0
  | [t] => by show t.length ≤ t.length + 2 + 0; omega
  | t :: u :: r => by
    have h2 := join_lenL (u :: r)
    show (t ++ (", " : Str) ++ Str.join ", " (u :: r)).length ≤ t.length + 2 + lenL (u :: r)
    rw [Str.length_append, Str.length_append]
    have e : ((", " : Str)).length = 2 := by decide +kernel
    rw [e]
    omega
mutual
theorem shown_len : ∀ d : D, smp d = true → d.shown.length + 2 ≤ 2000 * nodes d
  | .none, _ => by
    rw [PyData.shown_none]
    decide +kernel
  | .bool b, _ => by
    rw [PyData.shown_bool]
    cases b <;> decide +kernel
  | .int i, h => by
    rw [PyData.shown_int, ofString_length]
    have h : i.natAbs.log2 < 1920 := by simpa [smp] using h
    have := int_text_length_le (by decide) h
    simp only [nodes]
    omega
  | .list xs, h => by
    have h : smpL xs = true := by simpa [smp] using h
    have := shownL_len xs h
    have h2 := join_lenL (PyData.shownAll xs)
    rw [PyData.shown_list, Str.length_append, Str.length_append]
    have e1 : (("[" : Str)).length = 1 := by decide +kernel
    have e2 : (("]" : Str)).length = 1 := by decide +kernel
    rw [e1, e2]
    simp only [nodes]
    omega
  | .tuple xs, h => by
    have h : smpL xs = true := by simpa [smp] using h
    have := shownL_len xs h
    have h2 := join_lenL (PyData.shownAll xs)
    rw [PyData.shown_tuple, Str.length_append, Str.length_append]
    have e1 : (("(" : Str)).length = 1 := by decide +kernel
    have e2 : ((if xs.length == 1 then ",)" else ")" : String) : Str).length ≤ 2 := by
      split <;> decide +kernel
    rw [e1]
    simp only [nodes]
    omega
  | .str x, h => by
    rw [smp, Bool.and_eq_true] at h
    have := of_decide_eq_true h.2
    simp only [nodes]
    omega
  | .dict _, h => by simp [smp] at h
theorem shownL_len : ∀ xs : List D, smpL xs = true → lenL (PyData.shownAll xs) ≤ 2000 * nodesL xs
  | [], _ => by
    rw [PyData.shownAll_nil]
    exact Nat.le_refl 0
  | x :: xs, h => by
    simp only [smpL, Bool.and_eq_true] at h
    have h1 := shown_len x h.1
    have h2 := shownL_len xs h.2
    rw [PyData.shownAll_cons]
    simp only [lenL, nodesL]
    omega
end
theorem show_ok {d : D} (h : smp d = true) (hd : d.depth ≤ 100) (hn : nodes d ≤ 8000) : showOk d = true := by
  unfold showOk fitN
  have h1 := shown_len d h
  have h2 : d.shown.length ≤ sizeLine := by
    rw [sizeLine_eq]
    omega
  rw [smp_show d h, decide_eq_true hd, decide_eq_true h2]
  rfl
theorem o_repr {d : D} (h : showOk d = true) : prim .repr [d] = .ok (.str d.shown) := by
  show (Res.guard (showOk d) >>= fun _ => Res.ok (PyData.str d.shown)) = _
  rw [guard_of h]
  rfl
theorem depth_s (x : Str) : (PyData.str x).depth = 0 := by simp [PyData.depth]
theorem o_ne_str {x y : Str} : prim .ne [.str x, .str y] = .ok (.bool (!(x == y))) := by
  show ((Res.guard (dOk (.str x) (.str y)) >>= fun _ => .ok (PyData.eqv (.str x) (.str y))) >>= fun r => Res.ok (PyData.bool (!r))) = _
  rw [guard_of (by unfold dOk; rw [depth_s, Nat.zero_min]; rfl)]
  rfl
theorem o_eq_str {x y : Str} : prim .eq [.str x, .str y] = .ok (.bool (x == y)) := by
  show ((Res.guard (dOk (.str x) (.str y)) >>= fun _ => .ok (PyData.eqv (.str x) (.str y))) >>= fun r => Res.ok (PyData.bool r)) = _
  rw [guard_of (by unfold dOk; rw [depth_s, Nat.zero_min]; rfl)]
  rfl
theorem o_ne_same {x : Str} : prim .ne [.str x, .str x] = .ok (.bool false) := by
  rw [o_ne_str, beq_self_eq_true]
  rfl
/-! ### numbers -/
theorem smp_i {i : Int} (h : i.natAbs < 2 ^ 1920) : smp (.int i) = true := by
  simp only [smp, decide_eq_true_eq]
  exact log2_lt h (by decide)
theorem smpL_ints : ∀ ns : List Int, (∀ n ∈ ns, n.natAbs < 2 ^ 1920) → smpL (ns.map PyData.int) = true
  | [], _ => by simp [smpL]
  | n :: ns, h => by
    simp only [List.map_cons, smpL, Bool.and_eq_true]
    exact ⟨smp_i (h n (List.mem_cons_self ..)), smpL_ints ns fun k hk => h k (List.mem_cons_of_mem _ hk)⟩
theorem nodesL_ints : ∀ ns : List Int, nodesL (ns.map PyData.int) = ns.length
  | [] => by simp [nodesL]
  | n :: ns => by
    simp only [List.map_cons, nodesL, nodes, nodesL_ints ns, List.length_cons]
    omega
theorem depthL_ints : ∀ ns : List Int, PyData.depthAll (ns.map PyData.int) = 0
  | [] => by simp [PyData.depthAll]
  | n :: ns => by simp [PyData.depthAll, PyData.depth, depthL_ints ns]
theorem show_tup {ns : List Int} (h : ∀ n ∈ ns, n.natAbs < 2 ^ 1920) (hl : ns.length ≤ 7000) : showOk (.tuple (ns.map PyData.int)) = true := by
  refine show_ok ?_ ?_ ?_
  · simp only [smp]
    exact smpL_ints ns h
  · simp only [PyData.depth, depthL_ints]
    omega
  · simp only [nodes, nodesL_ints]
    omega
end Mir.P
/-! Mir, part S2: more of the pure side. -/
namespace Mir.P
open PySem
theorem intsOf_map : ∀ ns : List Int, intsOf (ns.map PyData.int) = .ok ns
  | [] => rfl
  | n :: ns => by
    show (intsOf (ns.map PyData.int) >>= fun l => Res.ok (n :: l)) = _
    rw [intsOf_map ns]
    rfl
theorem foldl_max : ∀ (xs : List Int) (x : Int), (xs.foldl max x = x ∨ xs.foldl max x ∈ xs) ∧ x ≤ xs.foldl max x ∧ ∀ z ∈ xs, z ≤ xs.foldl max x
  | [], x => ⟨.inl rfl, Int.le_refl _, fun z h => (nomatch h)⟩
  | y :: xs, x => by
    obtain ⟨h1, h2, h3⟩ := foldl_max xs (max x y)
    refine ⟨?_, ?_, fun z hz => ?_⟩
    · rcases h1 with h | h
      · show xs.foldl max (max x y) = x ∨ xs.foldl max (max x y) ∈ y :: xs
        rw [h]
        by_cases hxy : x ≤ y
        · right
          rw [Int.max_eq_right hxy]
          exact List.mem_cons_self ..
        · left
          rw [Int.max_eq_left (by omega)]
      · exact .inr (List.mem_cons_of_mem _ h)
    · show x ≤ xs.foldl max (max x y)
      have := Int.le_max_left x y
      omega
    · show z ≤ xs.foldl max (max x y)
      rcases List.mem_cons.mp hz with rfl | hz
      · have := Int.le_max_right x z
        omega
      · exact h3 z hz
/-- the greatest of some numbers -/
theorem max_seq {d : D} {ns : List Int} (hs : seqOf d = .ok (ns.map PyData.int)) (h : ns ≠ []) : ∃ m, prim .max [d] = .ok (.int m) ∧ m ∈ ns ∧ ∀ z ∈ ns, z ≤ m := by
  cases ns with
  | nil => exact absurd rfl h
  | cons x xs =>
    obtain ⟨h1, h2, h3⟩ := foldl_max xs x
    refine ⟨xs.foldl max x, ?_, ?_, fun z hz => ?_⟩
    · cases d with
      | list ys =>
        show (seqOf (.list ys) >>= fun a => intsOf a >>= fun b => maxI b >>= fun m => Res.ok (PyData.int m)) = _
        rw [hs, bind_ok, intsOf_map]
        rfl
      | tuple ys =>
        show (seqOf (.tuple ys) >>= fun a => intsOf a >>= fun b => maxI b >>= fun m => Res.ok (PyData.int m)) = _
        rw [hs, bind_ok, intsOf_map]
        rfl
      | _ => cases hs
    · rcases h1 with h | h
      · rw [h]
        exact List.mem_cons_self ..
      · exact List.mem_cons_of_mem _ h
    · rcases List.mem_cons.mp hz with rfl | hz
      · exact h2
      · exact h3 z hz
theorem idx_ints_t {ns : List Int} {i : Int} (h0 : 0 ≤ i) (h1 : i.toNat < ns.length) : prim .idx [.tuple (ns.map PyData.int), .int i] = .ok (.int ns[i.toNat]) :=
  o_idx_t h0 (by rw [List.getElem?_map, List.getElem?_eq_getElem h1]; rfl)
theorem idx_ints_l {ns : List Int} {i : Int} (h0 : 0 ≤ i) (h1 : i.toNat < ns.length) : prim .idx [.list (ns.map PyData.int), .int i] = .ok (.int ns[i.toNat]) :=
  o_idx_l h0 (by rw [List.getElem?_map, List.getElem?_eq_getElem h1]; rfl)
theorem len_map {ns : List Int} : (ns.map PyData.int).length = ns.length := List.length_map ..
theorem o_sum_l {ns : List Int} : prim .sum [.list (ns.map PyData.int)] = .ok (.int ns.sum) := by
  show (Res.ok (ns.map PyData.int) >>= fun a => intsOf a >>= fun b => Res.ok (PyData.int b.sum)) = _
  rw [bind_ok, intsOf_map]
  rfl
theorem o_sum_t {ns : List Int} : prim .sum [.tuple (ns.map PyData.int)] = .ok (.int ns.sum) := by
  show (Res.ok (ns.map PyData.int) >>= fun a => intsOf a >>= fun b => Res.ok (PyData.int b.sum)) = _
  rw [bind_ok, intsOf_map]
  rfl
theorem powI {a k m : Nat} (ha : 0 < a) (h : k ≤ m) : ((a : Int) ^ k) ≤ (a : Int) ^ m := by
  have := Nat.pow_le_pow_right ha h
  exact_mod_cast this
theorem sum_nn : ∀ {ns : List Int}, (∀ x ∈ ns, 0 ≤ x) → 0 ≤ ns.sum
  | [], _ => Int.le_refl 0
  | n :: ns, h => by
    have h1 := h n (List.mem_cons_self ..)
    have h2 := sum_nn (ns := ns) fun x hx => h x (List.mem_cons_of_mem _ hx)
    rw [List.sum_cons]
    omega
theorem sum_le {b : Int} : ∀ {ns : List Int}, (∀ x ∈ ns, x ≤ b) → ns.sum ≤ b * ns.length
  | [], _ => by simp
  | n :: ns, h => by
    have h1 := h n (List.mem_cons_self ..)
    have h2 := sum_le (ns := ns) fun x hx => h x (List.mem_cons_of_mem _ hx)
    rw [List.sum_cons, List.length_cons, Int.natCast_add, Int.mul_add]
    omega
theorem mem_le_sum : ∀ {ns : List Int}, (∀ x ∈ ns, 0 ≤ x) → ∀ x ∈ ns, x ≤ ns.sum
  | [], _, x, h => (nomatch h)
  | n :: ns, h, x, hx => by
    have h2 := sum_nn (ns := ns) fun x hx => h x (List.mem_cons_of_mem _ hx)
    have h1 := h n (List.mem_cons_self ..)
    rw [List.sum_cons]
    rcases List.mem_cons.mp hx with z | z
    · omega
    · have := mem_le_sum (ns := ns) (fun x hx => h x (List.mem_cons_of_mem _ hx)) x z
      omega
end Mir.P
/-! Mir, part Q2: the feed and what is taken of it. -/
namespace Mir.P
open PySem
set_option maxHeartbeats 2000000
def feedD : FDef := ⟨2, 3, [], [.set (.nm 2) (.p .add [.p .mul [.c (.int 7919), .o 1], .c (.int 5)]),
.ite (.p .lt [.o 1, .p .len [.o 0]]) [.set (.nm 2) (.p .idx [.o 0, .o 1])] [.ite (.p .gt [.p .len [.o 0], .c (.int 0)]) [.set (.nm 2) (.p .add [.p .mod [.p .idx [.o 0, .p .mod [.o 1, .p .len [.o 0]]], .c (.int 2147483629)], .p .mul [.c (.int 31), .o 1]])] []],
.ret (.disp false [.v 2, .c (.int 0), .p .mul [.o 2, .p .int [.p .ge [.o 2, .p .pow [.c (.int 10), .c (.int 18)]]]]])]⟩
def takeD : FDef := ⟨2, 5, [0], [.sub 0 (.c (.int 1)) (.p .add [.p .idx [.o 0, .c (.int 1)], .c (.int 1)]),
.ite (.p .gt [.p .idx [.o 0, .c (.int 2)], .c (.int 0)]) [.set (.nm 2) (.p .mod [.p .idx [.o 0, .c (.int 2)], .o 1]),
.sub 0 (.c (.int 2)) (.p .fdiv [.p .idx [.o 0, .c (.int 2)], .o 1]),
.ret (.mv 2)] [],
.set (.nm 3) (.p .idx [.o 0, .c (.int 1)]),
.set (.nm 4) (.p .add [.p .add [.p .mod [.p .idx [.o 0, .c (.int 0)], .c (.int 2147483629)], .p .mul [.p .mul [.c (.int 7919), .o 3], .o 3]], .p .mul [.c (.int 104729), .o 3]]),
.set (.nm 4) (.p .mod [.p .mul [.o 4, .c (.int 48271)], .c (.int 2147483647)]),
.set (.nm 4) (.p .mod [.p .mul [.p .add [.p .fdiv [.o 4, .c (.int 64)], .p .mul [.c (.int 613), .o 3]], .c (.int 69621)], .c (.int 2147483587)]),
.ret (.p .mod [.p .fdiv [.o 4, .c (.int 64)], .o 1])]⟩
theorem take_ok {T : List FDef} {M n i : Nat} (hT : T[i]? = some takeD) {c t l many : Int} (h0 : 0 ≤ t) (h1 : t < 2 ^ 40) (hm : 0 < many) (hd : many < 2 ^ 8999) :
    Ok (callF T M (n + 1) i [fd c t l, .int many]) fun p => ∃ v l', p = (.int v, [fd c (t + 1) l']) ∧ 0 ≤ v ∧ v < many := by
  have hdv := divOk_s hm hd
  have m1 : -9223372036854775808 ≤ t + 1 := by omega
  have m2 : t + 1 < 9223372036854775808 := by omega
  have v0 : ∀ X : Int, 0 ≤ X % many := fun X => Int.emod_nonneg _ (by omega)
  have v1 : ∀ X : Int, X % many < many := fun X => Int.emod_lt_of_pos _ hm
  refine call_ok hT rfl ?_
  unfold takeD fd
  simp only [mirS, List.all_cons, List.all_nil, Bool.and_true, Bool.true_and, decide_true, List.length_cons, List.length_nil, decide_eq_true_eq, Nat.zero_le, Nat.reduceLeDiff, Int.reduceLE, Int.reduceLT, Int.reducePow, Int.reduceNeg, Int.reduceToNat, ↓reduceIte, Bool.false_eq_true, Option.toList_some, Option.toList_none, List.append_nil, List.length_map, List.map_cons, List.map_nil, List.cons_append, List.nil_append, Nat.reduceSub, List.replicate]
  refine ok_cases (fun h => ?_) fun h => ?_
  · simp only [mirS, List.all_cons, List.all_nil, Bool.and_true, Bool.true_and, decide_true, List.length_cons, List.length_nil, decide_eq_true_eq, Nat.zero_le, Nat.reduceLeDiff, Int.reduceLE, Int.reduceLT, Int.reducePow, Int.reduceNeg, Int.reduceToNat, ↓reduceIte, Bool.false_eq_true, Option.toList_some, Option.toList_none, List.append_nil, List.length_map, o_mod hm, o_fdiv hm hdv]
    exact ⟨_, _, rfl, v0 _, v1 _⟩
  · simp only [mirS, List.all_cons, List.all_nil, Bool.and_true, Bool.true_and, decide_true, List.length_cons, List.length_nil, decide_eq_true_eq, Nat.zero_le, Nat.reduceLeDiff, Int.reduceLE, Int.reduceLT, Int.reducePow, Int.reduceNeg, Int.reduceToNat, ↓reduceIte, Bool.false_eq_true, Option.toList_some, Option.toList_none, List.append_nil, List.length_map, o_mod hm, m1, m2]
    exact ⟨_, _, rfl, v0 _, v1 _⟩
theorem feed_ok {T : List FDef} {M n i : Nat} (hT : T[i]? = some feedD) {ns : List Int} {k : Int} (h0 : 0 ≤ k) (h1 : k < 1000) (hl : ns.length ≤ 63) : Ok (callF T M (n + 1) i [.list (ns.map PyData.int), .int k]) fun p => ∃ c l, p = (fd c 0 l, []) := by
  have m1 : -9223372036854775808 ≤ k := by omega
  have m2 : k < 9223372036854775808 := by omega
  have fin : ∀ z : Int, Ok (evB (callF T M n) M (feedD.body.drop 2) [some (.list (ns.map PyData.int)), some (.int k), some (.int z)]) (endQ [] fun p => ∃ c l, p = (fd c 0 l, [])) := by
    intro z
    unfold feedD fd
    by_cases hz : 1000000000000000000 ≤ z
    · simp only [List.drop_succ_cons, List.drop_zero, mirS, List.all_cons, List.all_nil, Bool.and_true, Bool.true_and, decide_true, List.length_cons, List.length_nil, decide_eq_true_eq, Nat.zero_le, Nat.reduceLeDiff, Int.reduceLE, Int.reduceLT, Int.reducePow, Int.reduceNeg, Int.reduceToNat, ↓reduceIte, Bool.false_eq_true, Option.toList_some, Option.toList_none, List.append_nil, List.length_map, hz]
      exact ⟨_, _, rfl⟩
    · simp only [List.drop_succ_cons, List.drop_zero, mirS, List.all_cons, List.all_nil, Bool.and_true, Bool.true_and, decide_true, List.length_cons, List.length_nil, decide_eq_true_eq, Nat.zero_le, Nat.reduceLeDiff, Int.reduceLE, Int.reduceLT, Int.reducePow, Int.reduceNeg, Int.reduceToNat, ↓reduceIte, Bool.false_eq_true, Option.toList_some, Option.toList_none, List.append_nil, List.length_map, hz]
      exact ⟨_, _, rfl⟩
  refine call_ok hT rfl ?_
  unfold feedD at fin ⊢
  simp only [List.drop_succ_cons, List.drop_zero, mirS, List.all_cons, List.all_nil, Bool.and_true, Bool.true_and, decide_true, List.length_cons, List.length_nil, decide_eq_true_eq, Nat.zero_le, Nat.reduceLeDiff, Int.reduceLE, Int.reduceLT, Int.reducePow, Int.reduceNeg, Int.reduceToNat, ↓reduceIte, Bool.false_eq_true, Option.toList_some, Option.toList_none, List.append_nil, List.length_map] at fin
  simp only [mirS, List.all_cons, List.all_nil, Bool.and_true, Bool.true_and, decide_true, List.length_cons, List.length_nil, decide_eq_true_eq, Nat.zero_le, Nat.reduceLeDiff, Int.reduceLE, Int.reduceLT, Int.reducePow, Int.reduceNeg, Int.reduceToNat, ↓reduceIte, Bool.false_eq_true, Option.toList_some, Option.toList_none, List.append_nil, List.length_map, List.map_cons, List.map_nil, List.cons_append, List.nil_append, Nat.reduceSub, List.replicate, m1, m2]
  refine ok_cases (fun h => ?_) fun h => ?_
  · simp only [mirS, List.all_cons, List.all_nil, Bool.and_true, Bool.true_and, decide_true, List.length_cons, List.length_nil, decide_eq_true_eq, Nat.zero_le, Nat.reduceLeDiff, Int.reduceLE, Int.reduceLT, Int.reducePow, Int.reduceNeg, Int.reduceToNat, ↓reduceIte, Bool.false_eq_true, Option.toList_some, Option.toList_none, List.append_nil, List.length_map, idx_ints_l h0 (show k.toNat < ns.length by omega)]
    exact fin _
  · simp only [mirS, List.all_cons, List.all_nil, Bool.and_true, Bool.true_and, decide_true, List.length_cons, List.length_nil, decide_eq_true_eq, Nat.zero_le, Nat.reduceLeDiff, Int.reduceLE, Int.reduceLT, Int.reducePow, Int.reduceNeg, Int.reduceToNat, ↓reduceIte, Bool.false_eq_true, Option.toList_some, Option.toList_none, List.append_nil, List.length_map]
    refine ok_cases (fun h2 => ?_) fun h2 => ?_
    · have i0 : 0 ≤ k % (ns.length : Int) := Int.emod_nonneg _ (by omega)
      have i1 : k % (ns.length : Int) < ns.length := Int.emod_lt_of_pos _ h2
      simp only [mirS, List.all_cons, List.all_nil, Bool.and_true, Bool.true_and, decide_true, List.length_cons, List.length_nil, decide_eq_true_eq, Nat.zero_le, Nat.reduceLeDiff, Int.reduceLE, Int.reduceLT, Int.reducePow, Int.reduceNeg, Int.reduceToNat, ↓reduceIte, Bool.false_eq_true, Option.toList_some, Option.toList_none, List.append_nil, List.length_map, o_mod h2, idx_ints_l i0 (show (k % (ns.length : Int)).toNat < ns.length by omega), m1, m2]
      exact fin _
    · simp only [mirS, List.all_cons, List.all_nil, Bool.and_true, Bool.true_and, decide_true, List.length_cons, List.length_nil, decide_eq_true_eq, Nat.zero_le, Nat.reduceLeDiff, Int.reduceLE, Int.reduceLT, Int.reducePow, Int.reduceNeg, Int.reduceToNat, ↓reduceIte, Bool.false_eq_true, Option.toList_some, Option.toList_none, List.append_nil, List.length_map]
      exact fin _
end Mir.P
/-! Mir, part Po: lists of numbers as polynomials. -/
namespace Mir.P
open PySem
/-- without the zeros at the end -/
def strip : List Int → List Int
  | [] => []
  | x :: xs => match strip xs with
    | [] => if x = 0 then [] else [x]
    | y :: ys => x :: y :: ys
theorem strip_zero : ∀ l : List Int, strip (l ++ [0]) = strip l
  | [] => rfl
  | x :: xs => by
    show (match strip (xs ++ [0]) with | [] => if x = 0 then [] else [x] | y :: ys => x :: y :: ys) = _
    rw [strip_zero xs]
    rfl
theorem strip_last {z : Int} (hz : z ≠ 0) : ∀ l : List Int, strip (l ++ [z]) = l ++ [z]
  | [] => by
    show (if z = 0 then [] else [z]) = _
    rw [if_neg hz]
    rfl
  | x :: xs => by
    show (match strip (xs ++ [z]) with | [] => if x = 0 then [] else [x] | y :: ys => x :: y :: ys) = _
    rw [strip_last hz xs]
    cases xs <;> rfl
theorem strip_take {l : List Int} {m : Nat} (hm : m < l.length) (h : l[m] = 0) : strip (l.take (m + 1)) = strip (l.take m) := by
  rw [List.take_add_one, List.getElem?_eq_getElem hm, h]
  exact strip_zero _
theorem strip_stop {l : List Int} {m : Nat} (hm : m < l.length) (h : l[m] ≠ 0) : strip (l.take (m + 1)) = l.take (m + 1) := by
  rw [List.take_add_one, List.getElem?_eq_getElem hm]
  exact strip_last h _
def polyOfD : FDef := ⟨1, 2, [], [.set (.nm 1) (.p .len [.o 0]),
.whl (.and (.p .gt [.o 1, .c (.int 0)]) (.p .eq [.p .idx [.o 0, .p .sub [.o 1, .c (.int 1)]], .c (.int 0)])) [.set (.nm 1) (.p .sub [.o 1, .c (.int 1)])],
.ret (.p .tuple [.cut [.o 0] [] [.v 1]])]⟩
set_option maxHeartbeats 2000000
theorem polyOf_ok {T : List FDef} {M n i : Nat} (hT : T[i]? = some polyOfD) {l : List Int} (hM : l.length < M) : Ok (callF T M (n + 1) i [.list (l.map PyData.int)]) fun p => p = (.tuple ((strip l).map PyData.int), []) := by
  refine call_ok hT rfl ?_
  unfold polyOfD
  simp only [mirS, List.all_cons, List.all_nil, Bool.and_true, Bool.true_and, decide_true, List.length_cons, List.length_nil, decide_eq_true_eq, Nat.zero_le, Nat.reduceLeDiff, Int.reduceLE, Int.reduceLT, Int.reducePow, Int.reduceNeg, Int.reduceToNat, ↓reduceIte, Bool.false_eq_true, Option.toList_some, Option.toList_none, List.append_nil, List.length_map, List.map_cons, List.map_nil, List.cons_append, List.nil_append, Nat.reduceSub, List.replicate]
  rw [s_whl]
  refine while_inv (fun m ε => ε = [some (.list (l.map PyData.int)), some (.int (m : Int))] ∧ m ≤ l.length ∧ strip (l.take m) = strip l) ?_ M l.length _ hM ⟨rfl, Nat.le_refl _, by rw [List.take_length]⟩
  rintro m ε ⟨rfl, hm, hs⟩
  cases m with
  | zero =>
    have p0 : ¬ (0 : Int) < ((0 : Nat) : Int) := by omega
    simp only [mirS, List.all_cons, List.all_nil, Bool.and_true, Bool.true_and, decide_true, List.length_cons, List.length_nil, decide_eq_true_eq, Nat.zero_le, Nat.reduceLeDiff, Int.reduceLE, Int.reduceLT, Int.reducePow, Int.reduceNeg, Int.reduceToNat, ↓reduceIte, Bool.false_eq_true, Option.toList_some, Option.toList_none, List.append_nil, List.length_map, p0]
    refine ⟨_, rfl, .inr ⟨rfl, ?_⟩⟩
    rw [cut_hi (by omega), ok_ok, o_tuple_l, ok_ok, ← hs]
    rfl
  | succ m =>
    have e1 : ((m + 1 : Nat) : Int) - 1 = (m : Int) := by omega
    have x1 : prim .idx [.list (l.map PyData.int), .int (m : Int)] = .ok (.int (l[m]'(by omega))) := by
      rw [idx_ints_l (by omega) (by omega)]
      congr 3
    have p1 : (0 : Int) < ((m + 1 : Nat) : Int) := by omega
    simp only [mirS, List.all_cons, List.all_nil, Bool.and_true, Bool.true_and, decide_true, List.length_cons, List.length_nil, decide_eq_true_eq, Nat.zero_le, Nat.reduceLeDiff, Int.reduceLE, Int.reduceLT, Int.reducePow, Int.reduceNeg, Int.reduceToNat, ↓reduceIte, Bool.false_eq_true, Option.toList_some, Option.toList_none, List.append_nil, List.length_map, p1, e1, x1]
    refine ⟨_, rfl, ?_⟩
    by_cases hz : l[m]'(by omega) = 0
    · exact .inl ⟨decide_eq_true hz, m, Nat.lt_succ_self m, rfl, by omega, by rw [← strip_take (by omega) hz]; exact hs⟩
    · refine .inr ⟨decide_eq_false hz, ?_⟩
      rw [cut_hi (by omega), ok_ok, o_tuple_l, ok_ok, ← hs, strip_stop (by omega) hz, List.map_take]
      rfl
def cutD : FDef := ⟨1, 2, [], [.set (.nm 1) (.p .list [.o 0]),
.whl (.and (.p .ne [.o 1, .disp false []]) (.p .eq [.p .idx [.o 1, .p .neg [.c (.int 1)]], .c (.int 0)])) [.ex (.pop 1 [])],
.ret (.p .tuple [.o 1])]⟩
theorem cut_ok {T : List FDef} {M n i : Nat} (hT : T[i]? = some cutD) {l : List Int} {d : D} (hd : prim .list [d] = .ok (.list (l.map PyData.int))) (hM : l.length < M) : Ok (callF T M (n + 1) i [d]) fun p => p = (.tuple ((strip l).map PyData.int), []) := by
  refine call_ok hT rfl ?_
  unfold cutD
  simp only [mirS, List.all_cons, List.all_nil, Bool.and_true, Bool.true_and, decide_true, List.length_cons, List.length_nil, decide_eq_true_eq, Nat.zero_le, Nat.reduceLeDiff, Int.reduceLE, Int.reduceLT, Int.reducePow, Int.reduceNeg, Int.reduceToNat, ↓reduceIte, Bool.false_eq_true, Option.toList_some, Option.toList_none, List.append_nil, List.length_map, List.map_cons, List.map_nil, List.cons_append, List.nil_append, Nat.reduceSub, List.replicate, hd]
  rw [s_whl]
  refine while_inv (fun m ε => ∃ k : List Int, ε = [some d, some (.list (k.map PyData.int))] ∧ k.length = m ∧ strip k = strip l) ?_ M l.length _ hM ⟨l, rfl, rfl, rfl⟩
  rintro m ε ⟨k, rfl, hk, hs⟩
  rcases List.eq_nil_or_concat k with rfl | ⟨k', z, rfl⟩
  · have n0 : (!(List.map PyData.int ([] : List Int)).isEmpty) = false := rfl
    simp only [mirS, List.all_cons, List.all_nil, Bool.and_true, Bool.true_and, decide_true, List.length_cons, List.length_nil, decide_eq_true_eq, Nat.zero_le, Nat.reduceLeDiff, Int.reduceLE, Int.reduceLT, Int.reducePow, Int.reduceNeg, Int.reduceToNat, ↓reduceIte, Bool.false_eq_true, Option.toList_some, Option.toList_none, List.append_nil, List.length_map, n0]
    refine ⟨_, rfl, .inr ⟨rfl, ?_⟩⟩
    rw [← hs]
    rfl
  · rw [List.concat_eq_append] at hs hk ⊢
    have e1 : List.map PyData.int (k' ++ [z]) = k'.map PyData.int ++ [.int z] := by
      rw [List.map_append]
      rfl
    have x1 : prim .idx [.list ((k' ++ [z]).map PyData.int), .int (-1)] = .ok (.int z) := o_idx_last (by
      rw [e1, List.length_append, List.length_singleton, Nat.add_sub_cancel, List.getElem?_append_right (Nat.le_refl _), Nat.sub_self]
      rfl)
    have ne : (!(List.map PyData.int (k' ++ [z])).isEmpty) = true := by simp
    have pp : popD (List.map PyData.int (k' ++ [z])) [] = .ok (.int z, k'.map PyData.int) := by
      rw [e1]
      exact pop_last
    have hl : k'.length < m := by
      rw [List.length_append, List.length_singleton] at hk
      omega
    simp only [mirS, List.all_cons, List.all_nil, Bool.and_true, Bool.true_and, decide_true, List.length_cons, List.length_nil, decide_eq_true_eq, Nat.zero_le, Nat.reduceLeDiff, Int.reduceLE, Int.reduceLT, Int.reducePow, Int.reduceNeg, Int.reduceToNat, ↓reduceIte, Bool.false_eq_true, Option.toList_some, Option.toList_none, List.append_nil, List.length_map, x1, ne, pp]
    refine ⟨_, rfl, ?_⟩
    by_cases hz : z = 0
    · subst hz
      exact .inl ⟨rfl, k'.length, hl, k', rfl, rfl, by rw [← strip_zero]; exact hs⟩
    · exact .inr ⟨decide_eq_false hz, by rw [← hs, strip_last hz]⟩
end Mir.P
/-! Mir, part Po2: sums and products of polynomials. -/
namespace Mir.P
open PySem
def atI (a : List Int) (k : Nat) : Int := a.getD k 0
def tab (m : Nat) (f : Nat → Int) : List Int := (List.range m).map f
theorem tab_len (m : Nat) (f : Nat → Int) : (tab m f).length = m := by
  unfold tab
  rw [List.length_map, List.length_range]
theorem tab_get {m : Nat} {f : Nat → Int} {j : Nat} (h : j < m) : (tab m f)[j]? = some (f j) := by
  unfold tab
  rw [List.getElem?_map, List.getElem?_range h]
  rfl
theorem tab_ext {m : Nat} {f g : Nat → Int} (h : ∀ k, k < m → f k = g k) : tab m f = tab m g := by
  unfold tab
  exact List.map_congr_left fun k hk => h k (List.mem_range.mp hk)
theorem tab_set {m : Nat} {f : Nat → Int} {j : Nat} {v : Int} : (tab m f).set j v = tab m fun k => if k = j then v else f k := by
  apply List.ext_getElem?
  intro i
  rw [List.getElem?_set, tab_len]
  by_cases hi : i < m
  · rw [tab_get hi]
    by_cases e : j = i
    · subst e
      rw [if_pos rfl, if_pos hi, tab_get hi, if_pos rfl]
    · rw [if_neg e, tab_get hi, if_neg (Ne.symm e)]
  · have n1 : ∀ f : Nat → Int, (tab m f)[i]? = none := fun f => List.getElem?_eq_none (by rw [tab_len]; omega)
    rw [n1, n1]
    split
    · rw [if_neg (by omega)]
    · rfl
theorem tab_zero (m : Nat) : List.replicate m (PyData.int 0) = (tab m fun _ => 0).map PyData.int := by
  unfold tab
  apply List.ext_getElem?
  intro i
  rw [List.getElem?_map, List.getElem?_map, List.getElem?_replicate]
  by_cases hi : i < m
  · rw [if_pos hi, List.getElem?_range hi]
    rfl
  · rw [if_neg hi, List.getElem?_eq_none (by rw [List.length_range]; omega)]
    rfl
theorem tab_self (a : List Int) : tab a.length (atI a) = a := by
  apply List.ext_getElem?
  intro i
  by_cases hi : i < a.length
  · rw [tab_get hi]
    unfold atI
    rw [List.getD_eq_getElem?_getD, List.getElem?_eq_getElem hi]
    rfl
  · rw [List.getElem?_eq_none (by rw [tab_len]; omega), List.getElem?_eq_none (by omega)]
theorem atI_in {a : List Int} {k : Nat} (h : k < a.length) : a[k] = atI a k := by
  unfold atI
  rw [List.getD_eq_getElem?_getD, List.getElem?_eq_getElem h]
  rfl
theorem atI_out {a : List Int} {k : Nat} (h : a.length ≤ k) : atI a k = 0 := by
  unfold atI
  rw [List.getD_eq_getElem?_getD, List.getElem?_eq_none h]
  rfl
theorem tab_idx_l {m : Nat} {f : Nat → Int} {i : Int} (h0 : 0 ≤ i) (h : i < m) : prim .idx [.list ((tab m f).map PyData.int), .int i] = .ok (.int (f i.toNat)) :=
  o_idx_l h0 (by rw [List.getElem?_map, tab_get (by omega)]; rfl)
theorem at_idx_t {a : List Int} {i : Int} (h0 : 0 ≤ i) (h : i < a.length) : prim .idx [.tuple (a.map PyData.int), .int i] = .ok (.int (atI a i.toNat)) := by
  rw [idx_ints_t h0 (by omega), atI_in]

/-! ### sums -/
def sumN (f : Nat → Int) : Nat → Int
  | 0 => 0
  | n + 1 => sumN f n + f n
theorem sumN_left (f : Nat → Int) : ∀ n, sumN f (n + 1) = f 0 + sumN (fun i => f (i + 1)) n
  | 0 => by
    show 0 + f 0 = f 0 + 0
    omega
  | n + 1 => by
    show sumN f (n + 1) + f (n + 1) = f 0 + (sumN (fun i => f (i + 1)) n + f (n + 1))
    rw [sumN_left f n]
    omega
theorem sumN_ext {f g : Nat → Int} : ∀ {n : Nat}, (∀ i, i < n → f i = g i) → sumN f n = sumN g n
  | 0, _ => rfl
  | n + 1, h => by
    show sumN f n + f n = sumN g n + g n
    rw [sumN_ext fun i hi => h i (by omega), h n (by omega)]
theorem sumN_rev : ∀ (n : Nat) (f : Nat → Int), sumN (fun i => f (n - 1 - i)) n = sumN f n
  | 0, _ => rfl
  | n + 1, f => by
    rw [sumN_left]
    show f (n + 1 - 1 - 0) + sumN (fun i => f (n + 1 - 1 - (i + 1))) n = sumN f n + f n
    have e : sumN (fun i => f (n + 1 - 1 - (i + 1))) n = sumN (fun i => f (n - 1 - i)) n := sumN_ext fun i hi => by
      congr 1
      omega
    rw [e, sumN_rev n f, show n + 1 - 1 - 0 = n by omega]
    omega
theorem sumN_more {f : Nat → Int} {n : Nat} : ∀ k : Nat, (∀ i, n ≤ i → f i = 0) → sumN f (n + k) = sumN f n
  | 0, _ => rfl
  | k + 1, h => by
    show sumN f (n + k) + f (n + k) = _
    rw [sumN_more k h, h (n + k) (by omega)]
    omega
/-- the product's number k, the terms up to n -/
def term (a b : List Int) (k i : Nat) : Int := if i ≤ k then atI a i * atI b (k - i) else 0
def conv (a b : List Int) (n k : Nat) : Int := sumN (term a b k) n
theorem conv_full (a b : List Int) (k : Nat) : conv a b a.length k = conv a b (k + 1) k := by
  have h1 : ∀ i, a.length ≤ i → term a b k i = 0 := fun i hi => by
    unfold term
    rw [atI_out hi]
    split
    · exact Int.zero_mul _
    · rfl
  have h2 : ∀ i, k + 1 ≤ i → term a b k i = 0 := fun i hi => if_neg (by omega)
  unfold conv
  rcases Nat.le_total a.length (k + 1) with h | h
  · rw [← sumN_more (k + 1 - a.length) h1, show a.length + (k + 1 - a.length) = k + 1 by omega]
  · rw [← sumN_more (a.length - (k + 1)) h2, show k + 1 + (a.length - (k + 1)) = a.length by omega]
theorem conv_comm (a b : List Int) (k : Nat) : conv a b a.length k = conv b a b.length k := by
  rw [conv_full, conv_full]
  unfold conv
  rw [← sumN_rev (k + 1) (term b a k)]
  refine sumN_ext fun i hi => ?_
  unfold term
  rw [if_pos (by omega), if_pos (by omega), show k - (k + 1 - 1 - i) = i by omega, show k + 1 - 1 - i = k - i by omega, Int.mul_comm]
theorem conv_step {a b : List Int} {i k : Nat} : conv a b (i + 1) k = conv a b i k + term a b k i := rfl
/-- the products so far: i whole rows, j terms of the next -/
def part (a b : List Int) (i j k : Nat) : Int := conv a b i k + (if i ≤ k ∧ k < i + j then atI a i * atI b (k - i) else 0)
theorem part_zero {a b : List Int} {i k : Nat} : part a b i 0 k = conv a b i k := by
  unfold part
  rw [if_neg (by omega), Int.add_zero]
theorem part_all {a b : List Int} {i k : Nat} : part a b i b.length k = conv a b (i + 1) k := by
  unfold part
  rw [conv_step]
  unfold term
  congr 1
  by_cases h : i ≤ k
  · rw [if_pos h]
    by_cases h2 : k < i + b.length
    · rw [if_pos ⟨h, h2⟩]
    · rw [if_neg (by omega), atI_out (a := b) (by omega), Int.mul_zero]
  · rw [if_neg h, if_neg (by omega)]
theorem part_succ {a b : List Int} {i j k : Nat} : part a b i (j + 1) k = if k = i + j then part a b i j k + atI a i * atI b j else part a b i j k := by
  unfold part
  by_cases h : k = i + j
  · subst h
    rw [if_pos rfl, if_pos (by omega), if_neg (by omega), Int.add_zero, show i + j - i = j by omega]
  · rw [if_neg h]
    congr 1
    by_cases h2 : i ≤ k ∧ k < i + j
    · rw [if_pos h2, if_pos (by omega)]
    · rw [if_neg h2, if_neg (by omega)]
end Mir.P
/-! Mir, part X: more for the pure side: equality, comprehensions as maps, products. -/
namespace Mir.P
open PySem
set_option maxHeartbeats 2000000
theorem o_eq_tnil {xs : List D} : prim .eq [.tuple xs, .tuple []] = .ok (.bool xs.isEmpty) := by
  show ((Res.guard (dOk (.tuple xs) (.tuple [])) >>= fun _ => .ok (PyData.eqv (.tuple xs) (.tuple []))) >>= fun r => Res.ok (PyData.bool r)) = _
  rw [guard_of (by unfold dOk; simp [PyData.depth, PyData.depthAll])]
  cases xs <;> simp [bind_ok, PyData.eqv, PyData.eqvAll]
theorem o_eq_same {d : D} (hp : d.plain = true) (hd : d.depth ≤ 100) : prim .eq [d, d] = .ok (.bool true) := by
  show ((Res.guard (dOk d d) >>= fun _ => .ok (PyData.eqv d d)) >>= fun r => Res.ok (PyData.bool r)) = _
  rw [guard_of (by unfold dOk; rw [Nat.min_self]; exact decide_eq_true hd), PySem.SeqAt.eqv_refl_plain d hp]
  rfl
theorem o_eq_strs {x : Str} : prim .eq [.str x, .str x] = .ok (.bool true) := by
  rw [o_eq_str, beq_self_eq_true]
theorem plainL_ints : ∀ ns : List Int, PyData.plainAll (ns.map PyData.int) = true
  | [] => rfl
  | n :: ns => by simp [PyData.plainAll, PyData.plain, plainL_ints ns]
/-- a comprehension that makes one thing of each -/
theorem comp_fn {f : D → MEnv → Res (Option D × MEnv)} {Q : List D × MEnv → Prop} {xs : List D} {J : MEnv → Prop} (g : Nat → D) {ε : MEnv} (h0 : J ε) (hs : ∀ i x ε, xs[i]? = some x → J ε → Ok (f x ε) fun p => p.1 = some (g i) ∧ J p.2)
    (hq : ∀ ε, J ε → Q ((List.range xs.length).map g, ε)) : Ok (compM f xs ε) Q := by
  refine comp_inv xs (fun i acc ε => acc = (List.range i).map g ∧ J ε) [] ε ⟨rfl, h0⟩ ?_ ?_
  · rintro i x acc ε hx ⟨rfl, hj⟩
    refine (hs i x ε hx hj).mono ?_
    rintro ⟨o, ε2⟩ ⟨e, hj2⟩
    have e : o = some (g i) := e
    subst e
    refine ⟨?_, hj2⟩
    rw [List.range_succ, List.map_append]
    rfl
  · rintro ys ε ⟨h, hj⟩
    rw [List.nil_append] at h
    subst h
    exact hq ε hj
theorem map_range_get {α β : Type} (xs : List α) (g : α → β) (d : β) : (List.range xs.length).map (fun i => (xs[i]?.map g).getD d) = xs.map g := by
  apply List.ext_getElem?
  intro i
  rw [List.getElem?_map, List.getElem?_map]
  by_cases hi : i < xs.length
  · rw [List.getElem?_range hi]
    show some ((Option.map g xs[i]?).getD d) = _
    rw [List.getElem?_eq_getElem hi]
    rfl
  · rw [List.getElem?_eq_none (by rw [List.length_range]; omega), List.getElem?_eq_none (by omega)]
    rfl
/-- a comprehension over the things of a list, one of each -/
theorem comp_map {α : Type} {f : D → MEnv → Res (Option D × MEnv)} {Q : List D × MEnv → Prop} {J : MEnv → Prop} {xs : List α} (c : α → D) (g : α → D) {ε : MEnv} (h0 : J ε) (hs : ∀ x ε, x ∈ xs → J ε → Ok (f (c x) ε) fun p => p.1 = some (g x) ∧ J p.2)
    (hq : ∀ ε, J ε → Q (xs.map g, ε)) : Ok (compM f (xs.map c) ε) Q := by
  refine comp_fn (J := J) (fun i => (xs[i]?.map g).getD .none) h0 ?_ ?_
  · intro i d ε hd hj
    rw [List.getElem?_map] at hd
    cases hx : xs[i]? with
    | none => rw [hx] at hd; cases hd
    | some x =>
      rw [hx] at hd
      cases hd
      exact hs x ε (List.mem_of_getElem? hx) hj
  · intro ε hj
    rw [List.length_map, map_range_get]
    exact hq ε hj
/-- a comprehension over a range from 0, one of each -/
theorem comp_tab {f : D → MEnv → Res (Option D × MEnv)} {Q : List D × MEnv → Prop} {n : Nat} {J : MEnv → Prop} (g : Nat → D) {ε : MEnv} (h0 : J ε) (hs : ∀ i ε, i < n → J ε → Ok (f (.int (i : Int)) ε) fun p => p.1 = some (g i) ∧ J p.2)
    (hq : ∀ ε, J ε → Q ((List.range n).map g, ε)) : Ok (compM f (upFrom 0 n) ε) Q := by
  refine comp_fn (J := J) g h0 ?_ ?_
  · intro i d ε hd hj
    obtain ⟨a, rfl⟩ := up_get _ _ _ _ hd
    rw [Int.zero_add]
    exact hs i ε a hj
  · intro ε hj
    rw [up_len]
    exact hq ε hj
theorem comp_tab1 {f : D → MEnv → Res (Option D × MEnv)} {Q : List D × MEnv → Prop} {lo : Int} {n : Nat} {J : MEnv → Prop} (g : Nat → D) {ε : MEnv} (h0 : J ε) (hs : ∀ i ε, i < n → J ε → Ok (f (.int (lo + i)) ε) fun p => p.1 = some (g i) ∧ J p.2)
    (hq : ∀ ε, J ε → Q ((List.range n).map g, ε)) : Ok (compM f (upFrom lo n) ε) Q := by
  refine comp_fn (J := J) g h0 ?_ ?_
  · intro i d ε hd hj
    obtain ⟨a, rfl⟩ := up_get _ _ _ _ hd
    exact hs i ε a hj
  · intro ε hj
    rw [up_len]
    exact hq ε hj
theorem atI_bd {a : List Int} {k : Nat} (h : ∀ x ∈ a, x.natAbs < 2 ^ k) (i : Nat) : (atI a i).natAbs < 2 ^ k := by
  by_cases hi : i < a.length
  · rw [← atI_in hi]
    exact h _ (List.getElem_mem hi)
  · rw [atI_out (by omega)]
    exact Nat.two_pow_pos k
theorem natCast_toNat (i : Nat) : ((i : Nat) : Int).toNat = i := Int.toNat_natCast i
theorem tab_map {m : Nat} {f : Nat → Int} : (List.range m).map (fun i => PyData.int (f i)) = (tab m f).map PyData.int := by
  unfold tab
  rw [List.map_map]
  rfl
def prodD (last : IS) : FDef := ⟨2, 5, [], [.ite (.or (.p .eq [.o 0, .disp true []]) (.p .eq [.o 1, .disp true []])) [.ret (.disp true [])] [],
.set (.nm 2) (.rep false (.c (.int 0)) (.p .sub [.p .add [.p .len [.o 0], .p .len [.o 1]], .c (.int 1)])),
.for_ .rng [.p .len [.o 0]] (.nm 3) [.for_ .rng [.p .len [.o 1]] (.nm 4) [.sub 2 (.p .add [.o 3, .o 4]) (.p .add [.p .idx [.o 2, .p .add [.o 3, .o 4]], .p .mul [.p .idx [.o 0, .o 3], .p .idx [.o 1, .o 4]]])]],
last]⟩
def pmul (a b : List Int) : List Int := if a = [] ∨ b = [] then [] else tab (a.length + b.length - 1) (conv a b a.length)
theorem prod_core {T : List FDef} {M n i : Nat} {last : IS} (hT : T[i]? = some (prodD last)) {a b : List Int} {k : Nat} (hk : 0 < k) (hk2 : k ≤ 400000) (ha : a.length ≤ 400) (hb : b.length ≤ 400) (Ha : ∀ x ∈ a, x.natAbs < 2 ^ k) (Hb : ∀ x ∈ b, x.natAbs < 2 ^ k) {Q : D × List D → Prop}
    (h0 : a = [] ∨ b = [] → Q (.tuple [], []))
    (h1 : a ≠ [] → b ≠ [] → ∀ y z, Ok (evS (callF T M n) M last [some (.tuple (a.map PyData.int)), some (.tuple (b.map PyData.int)), some (.list ((tab (a.length + b.length - 1) (conv a b a.length)).map PyData.int)), y, z]) (contB (callF T M n) M [] (endQ [] Q))) :
    Ok (callF T M (n + 1) i [.tuple (a.map PyData.int), .tuple (b.map PyData.int)]) Q := by
  refine call_ok hT rfl ?_
  unfold prodD
  by_cases na : a = []
  · subst na
    simp only [mirS, List.all_cons, List.all_nil, Bool.and_true, Bool.true_and, decide_true, List.length_cons, List.length_nil, decide_eq_true_eq, Nat.zero_le, Nat.reduceLeDiff, Int.reduceLE, Int.reduceLT, Int.reducePow, Int.reduceNeg, Int.reduceToNat, ↓reduceIte, Bool.false_eq_true, Option.toList_some, Option.toList_none, List.append_nil, List.length_map, List.map_cons, List.map_nil, List.cons_append, List.nil_append, Nat.reduceSub, List.replicate, o_eq_tnil, List.isEmpty_nil]
    exact h0 (.inl rfl)
  by_cases nb : b = []
  · subst nb
    have e1 : (a.map PyData.int).isEmpty = false := by
      cases a with
      | nil => exact absurd rfl na
      | cons x xs => rfl
    simp only [mirS, List.all_cons, List.all_nil, Bool.and_true, Bool.true_and, decide_true, List.length_cons, List.length_nil, decide_eq_true_eq, Nat.zero_le, Nat.reduceLeDiff, Int.reduceLE, Int.reduceLT, Int.reducePow, Int.reduceNeg, Int.reduceToNat, ↓reduceIte, Bool.false_eq_true, Option.toList_some, Option.toList_none, List.append_nil, List.length_map, List.map_cons, List.map_nil, List.cons_append, List.nil_append, Nat.reduceSub, List.replicate, o_eq_tnil, e1, List.isEmpty_nil]
    exact h0 (.inr rfl)
  have e1 : (a.map PyData.int).isEmpty = false := by
    cases a with
    | nil => exact absurd rfl na
    | cons x xs => rfl
  have e2 : (b.map PyData.int).isEmpty = false := by
    cases b with
    | nil => exact absurd rfl nb
    | cons x xs => rfl
  have la : 0 < a.length := List.length_pos_iff.mpr na
  have lb : 0 < b.length := List.length_pos_iff.mpr nb
  have em : (a.length : Int) + (b.length : Int) - 1 = ((a.length + b.length - 1 : Nat) : Int) := by omega
  simp only [mirS, List.all_cons, List.all_nil, Bool.and_true, Bool.true_and, decide_true, List.length_cons, List.length_nil, decide_eq_true_eq, Nat.zero_le, Nat.reduceLeDiff, Int.reduceLE, Int.reduceLT, Int.reducePow, Int.reduceNeg, Int.reduceToNat, ↓reduceIte, Bool.false_eq_true, Option.toList_some, Option.toList_none, List.append_nil, List.length_map, List.map_cons, List.map_nil, List.cons_append, List.nil_append, Nat.reduceSub, List.replicate, o_eq_tnil, e1, e2, em, rep_ok (k := ((a.length + b.length - 1 : Nat) : Int)) (by omega) (by omega), natCast_toNat, tab_zero, it_rng1 (n := (a.length : Int)) (rngOk_s (by omega) (by omega))]
  refine for_rng0 (fun i ε => ∃ y z, ε = [some (.tuple (a.map PyData.int)), some (.tuple (b.map PyData.int)), some (.list ((tab (a.length + b.length - 1) (conv a b i)).map PyData.int)), y, z]) ⟨none, none, rfl⟩ ?_ ?_
  · rintro i ε hi ⟨y, z, rfl⟩
    simp only [mirS, List.all_cons, List.all_nil, Bool.and_true, Bool.true_and, decide_true, List.length_cons, List.length_nil, decide_eq_true_eq, Nat.zero_le, Nat.reduceLeDiff, Int.reduceLE, Int.reduceLT, Int.reducePow, Int.reduceNeg, Int.reduceToNat, ↓reduceIte, Bool.false_eq_true, Option.toList_some, Option.toList_none, List.append_nil, List.length_map, it_rng1 (n := (b.length : Int)) (rngOk_s (by omega) (by omega)), natCast_toNat]
    refine for_rng0 (fun j ε => ∃ z, ε = [some (.tuple (a.map PyData.int)), some (.tuple (b.map PyData.int)), some (.list ((tab (a.length + b.length - 1) (part a b i j)).map PyData.int)), some (.int (i : Int)), z]) ⟨z, ?_⟩ ?_ ?_
    · congr 6
      exact tab_ext fun k _ => part_zero.symm
    · rintro j ε hj ⟨z, rfl⟩
      have ij : ((i : Int) + (j : Int)).toNat = i + j := by omega
      have mk : mulOk (atI a i) (atI b j) = true := mulOk_b (atI_bd Ha i) (atI_bd Hb j) hk hk (by omega)
      simp only [mirS, List.all_cons, List.all_nil, Bool.and_true, Bool.true_and, decide_true, List.length_cons, List.length_nil, decide_eq_true_eq, Nat.zero_le, Nat.reduceLeDiff, Int.reduceLE, Int.reduceLT, Int.reducePow, Int.reduceNeg, Int.reduceToNat, ↓reduceIte, Bool.false_eq_true, Option.toList_some, Option.toList_none, List.append_nil, List.length_map, tab_idx_l (m := a.length + b.length - 1) (i := (i : Int) + (j : Int)) (by omega) (by omega), at_idx_t (a := a) (i := (i : Int)) (by omega) (by omega), at_idx_t (a := b) (i := (j : Int)) (by omega) (by omega), natCast_toNat, Mir.P.o_mul mk, tab_len, ixOf_pos (n := a.length + b.length - 1) (i := (i : Int) + (j : Int)) (by omega) (by omega), ij, tab_set]
      refine ⟨some (.int (j : Int)), ?_⟩
      congr 6
      refine tab_ext fun k hk => ?_
      rw [part_succ]
      by_cases e : k = i + j
      · subst e
        simp
      · rw [if_neg e, if_neg e]
    · rintro ε ⟨z, rfl⟩
      simp only [mirS, List.all_cons, List.all_nil, Bool.and_true, Bool.true_and, decide_true, List.length_cons, List.length_nil, decide_eq_true_eq, Nat.zero_le, Nat.reduceLeDiff, Int.reduceLE, Int.reduceLT, Int.reducePow, Int.reduceNeg, Int.reduceToNat, ↓reduceIte, Bool.false_eq_true, Option.toList_some, Option.toList_none, List.append_nil, List.length_map]
      refine ⟨some (.int (i : Int)), z, ?_⟩
      congr 6
      exact tab_ext fun k _ => part_all
  · rintro ε ⟨y, z, rfl⟩
    simp only [mirS, List.all_cons, List.all_nil, Bool.and_true, Bool.true_and, decide_true, List.length_cons, List.length_nil, decide_eq_true_eq, Nat.zero_le, Nat.reduceLeDiff, Int.reduceLE, Int.reduceLT, Int.reducePow, Int.reduceNeg, Int.reduceToNat, ↓reduceIte, Bool.false_eq_true, Option.toList_some, Option.toList_none, List.append_nil, List.length_map, natCast_toNat]
    exact h1 na nb y z
theorem pmul_comm (a b : List Int) : pmul a b = pmul b a := by
  unfold pmul
  by_cases h : a = [] ∨ b = []
  · rw [if_pos h, if_pos (Or.comm.mp h)]
  · rw [if_neg h, if_neg fun z => h (Or.comm.mp z), Nat.add_comm a.length b.length]
    exact tab_ext fun k _ => conv_comm a b k
theorem tru_t {xs : List D} : truD (.tuple xs) = .ok (!xs.isEmpty) := (Eq.trans rfl rfl)
theorem tru_l {xs : List D} : truD (.list xs) = .ok (!xs.isEmpty) := (Eq.trans rfl rfl)
theorem o_not_eq {d : D} (hp : d.plain = true) (hd : d.depth ≤ 100) : prim .ne [d, d] = .ok (.bool false) := by
  show ((Res.guard (dOk d d) >>= fun _ => .ok (PyData.eqv d d)) >>= fun r => Res.ok (PyData.bool (!r))) = _
  rw [guard_of (by unfold dOk; rw [Nat.min_self]; exact decide_eq_true hd), PySem.SeqAt.eqv_refl_plain d hp]
  rfl
/-- a loop that keeps J at each of the things -/
theorem for_mem {f : D → MEnv → Res Flow} {Q : Flow → Prop} {xs : List D} {ε : MEnv} (J : MEnv → Prop) (h0 : J ε) (hs : ∀ x ε, x ∈ xs → J ε → Ok (f x ε) (stepQ J Q)) (hq : ∀ ε, J ε → Q (.nx ε)) : Ok (forM f xs ε) Q :=
  for_list xs (fun _ => J) ε h0 (fun i x ε e h => hs x ε (List.mem_of_getElem? e) h) hq
/-! ### values that can be shown and compared -/
structure Nice (d : D) (k m : Nat) : Prop where
  smp : smp d = true
  dep : d.depth ≤ k
  nod : nodes d ≤ m
  pl : d.plain = true
structure NiceL (ds : List D) (k m : Nat) : Prop where
  smp : smpL ds = true
  dep : PyData.depthAll ds ≤ k
  nod : nodesL ds ≤ m
  pl : PyData.plainAll ds = true
theorem Nice.show {d : D} {k m : Nat} (h : Nice d k m) (hk : k ≤ 100) (hm : m ≤ 8000) : showOk d = true := show_ok h.smp (Nat.le_trans h.dep hk) (Nat.le_trans h.nod hm)
theorem Nice.eq {d : D} {k m : Nat} (h : Nice d k m) (hk : k ≤ 100) : prim .eq [d, d] = .ok (.bool true) := o_eq_same h.pl (Nat.le_trans h.dep hk)
theorem Nice.mono {d : D} {k m k' m' : Nat} (h : Nice d k m) (hk : k ≤ k') (hm : m ≤ m') : Nice d k' m' := ⟨h.smp, Nat.le_trans h.dep hk, Nat.le_trans h.nod hm, h.pl⟩
theorem niceL_nil {k : Nat} : NiceL [] k 0 := ⟨by simp [smpL], by simp [PyData.depthAll], by simp [nodesL], rfl⟩
theorem niceL_cons {d : D} {ds : List D} {k m m' : Nat} (h : Nice d k m) (hs : NiceL ds k m') : NiceL (d :: ds) k (m + m') :=
  ⟨by simp only [smpL, Bool.and_eq_true]; exact ⟨h.smp, hs.smp⟩, by simp only [PyData.depthAll]; exact Nat.max_le.mpr ⟨h.dep, hs.dep⟩, by simp only [nodesL]; exact Nat.add_le_add h.nod hs.nod, by simp only [PyData.plainAll, Bool.and_eq_true]; exact ⟨h.pl, hs.pl⟩⟩
theorem nice_list {ds : List D} {k m : Nat} (h : NiceL ds k m) : Nice (.list ds) (k + 1) (1 + m) :=
  ⟨by simpa only [Mir.P.smp] using h.smp, by simp only [PyData.depth]; have := h.dep; omega, by simp only [nodes]; have := h.nod; omega, by simpa only [PyData.plain] using h.pl⟩
theorem nice_tuple {ds : List D} {k m : Nat} (h : NiceL ds k m) : Nice (.tuple ds) (k + 1) (1 + m) :=
  ⟨by simpa only [Mir.P.smp] using h.smp, by simp only [PyData.depth]; have := h.dep; omega, by simp only [nodes]; have := h.nod; omega, by simpa only [PyData.plain] using h.pl⟩
theorem nice_int {i : Int} {k : Nat} (h : i.natAbs < 2 ^ 1920) : Nice (.int i) k 1 := ⟨smp_i h, by rw [depth_i]; exact Nat.zero_le _, by simp [nodes], rfl⟩
theorem nice_bool {b : Bool} {k : Nat} : Nice (.bool b) k 1 := ⟨by simp [Mir.P.smp], by simp [PyData.depth], by simp [nodes], rfl⟩
theorem nice_none {k : Nat} : Nice .none k 1 := ⟨by simp [Mir.P.smp], by simp [PyData.depth], by simp [nodes], rfl⟩
theorem nice_str {x : Str} {k : Nat} (h : Mir.P.smp (.str x) = true) : Nice (.str x) k 1 := ⟨h, by simp [PyData.depth], by simp [nodes], rfl⟩
theorem niceL_map {α : Type} {f : α → D} {k m : Nat} : ∀ {xs : List α}, (∀ x ∈ xs, Nice (f x) k m) → NiceL (xs.map f) k (m * xs.length)
  | [], _ => niceL_nil
  | x :: xs, h => by
    have h1 := niceL_cons (h x (List.mem_cons_self ..)) (niceL_map fun y hy => h y (List.mem_cons_of_mem _ hy))
    rw [List.length_cons, Nat.mul_add, Nat.mul_one, Nat.add_comm]
    exact h1
theorem nice_ints_t {ns : List Int} (h : ∀ n ∈ ns, n.natAbs < 2 ^ 1920) {k m : Nat} (hk : 1 ≤ k) (hm : ns.length + 1 ≤ m) : Nice (.tuple (ns.map PyData.int)) k m :=
  (nice_tuple (niceL_map (k := 0) (m := 1) fun x hx => nice_int (h x hx))).mono hk (by omega)
theorem nice_ints_l {ns : List Int} (h : ∀ n ∈ ns, n.natAbs < 2 ^ 1920) {k m : Nat} (hk : 1 ≤ k) (hm : ns.length + 1 ≤ m) : Nice (.list (ns.map PyData.int)) k m :=
  (nice_list (niceL_map (k := 0) (m := 1) fun x hx => nice_int (h x hx))).mono hk (by omega)
/-! ### how great the numbers are -/
theorem strip_mem : ∀ {l : List Int} {x : Int}, x ∈ strip l → x ∈ l
  | [], x, h => h
  | y :: ys, x, h => by
    have ih := @strip_mem ys x
    unfold strip at h
    split at h
    · split at h
      · cases h
      · rw [List.mem_singleton.mp h]
        exact List.mem_cons_self ..
    · rename_i z zs e
      rcases List.mem_cons.mp h with rfl | h
      · exact List.mem_cons_self ..
      · exact List.mem_cons_of_mem _ (ih (by rw [e]; exact h))
theorem strip_len : ∀ l : List Int, (strip l).length ≤ l.length
  | [] => Nat.le_refl 0
  | y :: ys => by
    have ih := strip_len ys
    unfold strip
    split
    · split <;> simp
    · rename_i z zs e
      rw [e] at ih
      simp only [List.length_cons] at ih ⊢
      omega
theorem tab_mem {m : Nat} {f : Nat → Int} {x : Int} (h : x ∈ tab m f) : ∃ i, i < m ∧ x = f i := by
  unfold tab at h
  obtain ⟨i, hi, rfl⟩ := List.mem_map.mp h
  exact ⟨i, List.mem_range.mp hi, rfl⟩
theorem sumN_bd {f : Nat → Int} {B : Nat} : ∀ {n : Nat}, (∀ i, (f i).natAbs ≤ B) → (sumN f n).natAbs ≤ n * B
  | 0, _ => by simp [sumN]
  | n + 1, h => by
    have h1 := sumN_bd (n := n) h
    have h2 := h n
    have h3 : (sumN f (n + 1)).natAbs ≤ (sumN f n).natAbs + (f n).natAbs := Int.natAbs_add_le ..
    rw [Nat.add_mul, Nat.one_mul]
    omega
theorem conv_bd {a b : List Int} {k n j : Nat} (Ha : ∀ x ∈ a, x.natAbs < 2 ^ k) (Hb : ∀ x ∈ b, x.natAbs < 2 ^ k) : (conv a b n j).natAbs ≤ n * 2 ^ (2 * k) := by
  refine sumN_bd fun i => ?_
  unfold term
  split
  · rw [Int.natAbs_mul, Nat.two_mul, Nat.pow_add]
    exact Nat.mul_le_mul (Nat.le_of_lt (atI_bd Ha _)) (Nat.le_of_lt (atI_bd Hb _))
  · exact Nat.zero_le _
theorem pmul_bd {a b : List Int} {k : Nat} (ha : a.length < 2 ^ 10) (Ha : ∀ x ∈ a, x.natAbs < 2 ^ k) (Hb : ∀ x ∈ b, x.natAbs < 2 ^ k) : ∀ x ∈ pmul a b, x.natAbs < 2 ^ (2 * k + 10) := by
  intro x hx
  unfold pmul at hx
  split at hx
  · cases hx
  · obtain ⟨i, _, rfl⟩ := tab_mem hx
    refine Nat.lt_of_le_of_lt (conv_bd Ha Hb) ?_
    rw [Nat.pow_add, Nat.mul_comm]
    exact Nat.mul_lt_mul_of_pos_left ha (Nat.two_pow_pos _)
theorem pmul_len (a b : List Int) : (pmul a b).length ≤ a.length + b.length := by
  unfold pmul
  split
  · exact Nat.zero_le _
  · rw [tab_len]
    omega
theorem pow_le {a b : Nat} (h : a ≤ b) : 2 ^ a ≤ 2 ^ b := Nat.pow_le_pow_right (by decide) h
theorem menu_idx (ms : List Int) {B : Nat} (hb : ∀ x ∈ ms, x.natAbs < B) {v : Int} (h0 : 0 ≤ v) (h1 : v < ms.length) : ∃ m, prim .idx [.list (ms.map PyData.int), .int v] = .ok (.int m) ∧ m.natAbs < B :=
  ⟨_, idx_ints_l h0 (by omega), hb _ (List.getElem_mem _)⟩
theorem pAdd_l {xs ys : List D} (h : xs.length + ys.length ≤ 1000) : prim .add [.list xs, .list ys] = .ok (.list (xs ++ ys)) := by
  show (Res.guard (fitN (xs.length + ys.length)) >>= fun _ => Res.ok (PyData.list (xs ++ ys))) = _
  rw [g_fit h]
  rfl
theorem pAdd_t {xs ys : List D} (h : xs.length + ys.length ≤ 1000) : prim .add [.tuple xs, .tuple ys] = .ok (.tuple (xs ++ ys)) := by
  show (Res.guard (fitN (xs.length + ys.length)) >>= fun _ => Res.ok (PyData.tuple (xs ++ ys))) = _
  rw [g_fit h]
  rfl

/-! ### more about values that can be shown -/
def niceB (k m : Nat) (d : D) : Bool := smp d && decide (d.depth ≤ k) && decide (nodes d ≤ m) && d.plain
theorem nice_of {d : D} {k m : Nat} (h : niceB k m d = true) : Nice d k m := by
  unfold niceB at h
  simp only [Bool.and_eq_true, decide_eq_true_eq] at h
  exact ⟨h.1.1.1, h.1.1.2, h.1.2, h.2⟩
theorem nice_all {ds : List D} {k m : Nat} (h : ds.all (niceB k m) = true) : ∀ d ∈ ds, Nice d k m := fun d hd => nice_of (List.all_eq_true.mp h d hd)
theorem niceL_tail {d : D} {ds : List D} {k m : Nat} (h : NiceL (d :: ds) k m) : Nice d k m ∧ NiceL ds k (m - 1) ∧ NiceL ds k (m - nodes d) := by
  obtain ⟨h1, h2, h3, h4⟩ := h
  simp only [smpL, Bool.and_eq_true] at h1
  simp only [PyData.depthAll] at h2
  simp only [nodesL] at h3
  simp only [PyData.plainAll, Bool.and_eq_true] at h4
  have np : 1 ≤ nodes d := by cases d <;> simp [nodes]
  exact ⟨⟨h1.1, by omega, by omega, h4.1⟩, ⟨h1.2, by omega, by omega, h4.2⟩, ⟨h1.2, by omega, by omega, h4.2⟩⟩
theorem niceL_app : ∀ {xs ys : List D} {k m m' : Nat}, NiceL xs k m → NiceL ys k m' → NiceL (xs ++ ys) k (m + m')
  | [], ys, k, m, m', _, h => ⟨h.smp, h.dep, Nat.le_trans h.nod (Nat.le_add_left ..), h.pl⟩
  | x :: xs, ys, k, m, m', hx, hy => by
    obtain ⟨h1, _, h2⟩ := niceL_tail hx
    have hn := hx.nod
    simp only [nodesL] at hn
    have h3 := niceL_cons ⟨h1.smp, h1.dep, Nat.le_refl _, h1.pl⟩ (niceL_app h2 hy)
    exact ⟨h3.smp, h3.dep, Nat.le_trans h3.nod (by omega), h3.pl⟩
theorem niceL_mono {ds : List D} {k m k' m' : Nat} (h : NiceL ds k m) (hk : k ≤ k') (hm : m ≤ m') : NiceL ds k' m' := ⟨h.smp, Nat.le_trans h.dep hk, Nat.le_trans h.nod hm, h.pl⟩
theorem niceL_rev : ∀ {xs : List D} {k m : Nat}, NiceL xs k m → NiceL xs.reverse k m
  | [], _, _, h => h
  | x :: xs, k, m, hx => by
    obtain ⟨h1, _, h2⟩ := niceL_tail hx
    have hn := hx.nod
    simp only [nodesL] at hn
    rw [List.reverse_cons]
    exact niceL_mono (niceL_app (niceL_rev h2) (niceL_cons ⟨h1.smp, h1.dep, Nat.le_refl _, h1.pl⟩ niceL_nil)) (Nat.le_refl _) (by omega)
theorem niceL_take : ∀ {xs : List D} {k m : Nat} (j : Nat), NiceL xs k m → NiceL (xs.take j) k m
  | _, _, _, 0, h => niceL_mono niceL_nil (Nat.le_refl _) (Nat.zero_le _)
  | [], _, _, _ + 1, h => h
  | x :: xs, k, m, j + 1, hx => by
    obtain ⟨h1, _, h2⟩ := niceL_tail hx
    have hn := hx.nod
    simp only [nodesL] at hn
    rw [List.take_succ_cons]
    exact niceL_mono (niceL_cons ⟨h1.smp, h1.dep, Nat.le_refl _, h1.pl⟩ (niceL_take j h2)) (Nat.le_refl _) (by omega)
theorem niceL_drop : ∀ {xs : List D} {k m : Nat} (j : Nat), NiceL xs k m → NiceL (xs.drop j) k m
  | _, _, _, 0, h => h
  | [], _, _, _ + 1, h => h
  | x :: xs, k, m, j + 1, hx => by
    obtain ⟨h1, h2, _⟩ := niceL_tail hx
    rw [List.drop_succ_cons]
    exact niceL_mono (niceL_drop j h2) (Nat.le_refl _) (by omega)
theorem niceL_mem : ∀ {xs : List D} {k m : Nat}, NiceL xs k m → ∀ x ∈ xs, Nice x k m
  | x :: xs, k, m, hx, y, hy => by
    obtain ⟨h1, h2, _⟩ := niceL_tail hx
    rcases List.mem_cons.mp hy with rfl | hy
    · exact h1
    · exact (niceL_mem h2 y hy).mono (Nat.le_refl _) (by omega)
theorem niceL_len : ∀ {xs : List D} {k m : Nat}, NiceL xs k m → xs.length ≤ m
  | [], _, _, _ => Nat.zero_le _
  | x :: xs, k, m, hx => by
    obtain ⟨h1, h2, h3⟩ := niceL_tail hx
    have hn := hx.nod
    have np : 1 ≤ nodes x := by cases x <;> simp [nodes]
    simp only [nodesL] at hn
    have := niceL_len h3
    rw [List.length_cons]
    omega
theorem nice_tup {ds : List D} {k m : Nat} (h : Nice (.tuple ds) (k + 1) (m + 1)) : NiceL ds k m := by
  obtain ⟨h1, h2, h3, h4⟩ := h
  simp only [smp] at h1
  simp only [PyData.depth] at h2
  simp only [nodes] at h3
  simp only [PyData.plain] at h4
  exact ⟨h1, by omega, by omega, h4⟩
theorem nice_int_lt {i : Int} {k m : Nat} (h : Nice (.int i) k m) : i.natAbs < 2 ^ 1920 := by
  have h1 := h.smp
  simp only [smp, decide_eq_true_eq] at h1
  by_cases h0 : i.natAbs = 0
  · rw [h0]
    exact Nat.two_pow_pos _
  · exact (Nat.log2_lt h0).mp h1
/-- one of a menu -/
theorem menu_D (ms : List D) {P : D → Prop} (hp : ∀ x ∈ ms, P x) {v : Int} (h0 : 0 ≤ v) (h1 : v < ms.length) : ∃ m, prim .idx [.list ms, .int v] = .ok m ∧ P m :=
  ⟨_, o_idx_l h0 (List.getElem?_eq_getElem (by omega)), hp _ (List.getElem_mem _)⟩
/-! ### kinds -/
def isW : D → Bool
  | .int _ => true
  | _ => false
theorem o_inst {k : Kd} {d : D} : prim (.isinst k) [d] = .ok (.bool (isK k d)) := (Eq.trans rfl rfl)
def wholeD : FDef := ⟨1, 1, [], [.ret (.and (.p (.isinst .int) [.o 0]) (.not (.p (.isinst .bool) [.o 0])))]⟩
theorem whole_ok {T : List FDef} {M n i : Nat} (hT : T[i]? = some wholeD) {d : D} : Ok (callF T M (n + 1) i [d]) fun p => p = (.bool (isW d), []) := by
  refine call_ok hT rfl ?_
  unfold wholeD
  cases d <;> simp only [mirS, List.all_cons, List.all_nil, Bool.and_true, Bool.true_and, decide_true, List.length_cons, List.length_nil, decide_eq_true_eq, Nat.zero_le, Nat.reduceLeDiff, Int.reduceLE, Int.reduceLT, Int.reducePow, Int.reduceNeg, Int.reduceToNat, ↓reduceIte, Bool.false_eq_true, Option.toList_some, Option.toList_none, List.append_nil, List.length_map, List.map_cons, List.map_nil, List.cons_append, List.nil_append, Nat.reduceSub, List.replicate, o_inst, isK, Bool.not_false, Bool.not_true, isW]
theorem boolsOf_map : ∀ bs : List Bool, boolsOf (bs.map PyData.bool) = .ok bs
  | [] => rfl
  | b :: bs => by
    show (boolsOf (bs.map PyData.bool) >>= fun l => Res.ok (b :: l)) = _
    rw [boolsOf_map bs]
    rfl
theorem o_all {bs : List Bool} : prim .all [.list (bs.map PyData.bool)] = .ok (.bool (bs.all id)) := by
  show (boolsOf (bs.map PyData.bool) >>= fun l => Res.ok (PyData.bool (l.all id))) = _
  rw [boolsOf_map]
  rfl
theorem o_in_false {bs : List Bool} : prim .isin [.bool false, .list (bs.map PyData.bool)] = .ok (.bool (!bs.all id)) := by
  show ((Res.guard (inOk (bs.map PyData.bool) (.bool false)) >>= fun _ => .ok ((bs.map PyData.bool).any fun y => PyData.eqv y (.bool false))) >>= fun r => Res.ok (PyData.bool r)) = _
  rw [guard_of (by unfold inOk; simp [PyData.depth])]
  rw [bind_ok, bind_ok]
  congr 2
  induction bs with
  | nil => rfl
  | cons b bs ih =>
    rw [List.map_cons, List.any_cons, ih, List.all_cons]
    cases b <;> simp [PyData.eqv]
end Mir.P
/-! Mir, part W: webs; the draws and webs of the laws k55 to k72. -/
namespace Mir.P
open PySem
set_option maxHeartbeats 2000000
def drawD2 : FDef := ⟨2, 6, [0], [.ite (.p .gt [.p .idx [.o 0, .c (.int 2)], .c (.int 0)]) [.set (.nm 2) (.p .mod [.p .idx [.o 0, .c (.int 2)], .o 1]),
.sub 0 (.c (.int 2)) (.p .fdiv [.p .idx [.o 0, .c (.int 2)], .o 1]),
.ret (.mv 2)] [],
.set (.nm 3) (.p .idx [.o 0, .c (.int 1)]),
.sub 0 (.c (.int 1)) (.p .add [.o 3, .c (.int 1)]),
.set (.nm 4) (.c (.int 0)),
.ite (.p .gt [.p .len [.p .idx [.o 0, .c (.int 0)]], .c (.int 0)]) [.set (.nm 4) (.p .idx [.p .idx [.o 0, .c (.int 0)], .p .mod [.o 3, .p .len [.p .idx [.o 0, .c (.int 0)]]]])] [],
.ite (.and (.p .ge [.o 4, .p .pow [.c (.int 10), .c (.int 18)]]) (.p .lt [.o 3, .p .len [.p .idx [.o 0, .c (.int 0)]]])) [.sub 0 (.c (.int 2)) (.p .fdiv [.o 4, .o 1]),
.ret (.p .mod [.o 4, .o 1])] [],
.set (.nm 5) (.p .mod [.p .mul [.p .add [.p .add [.p .mod [.o 4, .c (.int 999331)], .p .mul [.p .mul [.c (.int 43), .o 3], .o 3]], .c (.int 29)], .c (.int 40692)], .c (.int 999961)]),
.ret (.p .mod [.p .mod [.p .mul [.p .mod [.p .add [.p .mul [.o 5, .c (.int 48271)], .p .mul [.o 3, .c (.int 5233)]], .c (.int 999953)], .c (.int 16807)], .c (.int 524287)], .o 1])]⟩
theorem draw2_ok {T : List FDef} {M n i : Nat} (hT : T[i]? = some drawD2) {ns : List Int} {spot left many : Int} (h0 : 0 ≤ spot) (h1 : spot < 2 ^ 40) (hm : 0 < many) (hd : many < 2 ^ 8999) :
    Ok (callF T M (n + 1) i [tp ns spot left, .int many]) fun p => ∃ v s l, p = (.int v, [tp ns s l]) ∧ 0 ≤ v ∧ v < many ∧ spot ≤ s ∧ s ≤ spot + 1 := by
  have hdv := divOk_s hm hd
  have m1 : -9223372036854775808 ≤ spot := by omega
  have m2 : spot < 9223372036854775808 := by omega
  have v0 : ∀ X : Int, 0 ≤ X % many := fun X => Int.emod_nonneg _ (by omega)
  have v1 : ∀ X : Int, X % many < many := fun X => Int.emod_lt_of_pos _ hm
  refine call_ok hT rfl ?_
  unfold drawD2 tp
  simp only [mirS, List.all_cons, List.all_nil, Bool.and_true, Bool.true_and, decide_true, List.length_cons, List.length_nil, decide_eq_true_eq, Nat.zero_le, Nat.reduceLeDiff, Int.reduceLE, Int.reduceLT, Int.reducePow, Int.reduceNeg, Int.reduceToNat, ↓reduceIte, Bool.false_eq_true, Option.toList_some, Option.toList_none, List.append_nil, List.length_map, List.map_cons, List.map_nil, List.cons_append, List.nil_append, Nat.reduceSub, List.replicate]
  refine ok_cases (fun h => ?_) fun h => ?_
  · simp only [mirS, List.all_cons, List.all_nil, Bool.and_true, Bool.true_and, decide_true, List.length_cons, List.length_nil, decide_eq_true_eq, Nat.zero_le, Nat.reduceLeDiff, Int.reduceLE, Int.reduceLT, Int.reducePow, Int.reduceNeg, Int.reduceToNat, ↓reduceIte, Bool.false_eq_true, Option.toList_some, Option.toList_none, List.append_nil, List.length_map, o_mod hm, o_fdiv hm hdv]
    exact ⟨_, _, _, rfl, v0 _, v1 _, by omega, by omega⟩
  · simp only [mirS, List.all_cons, List.all_nil, Bool.and_true, Bool.true_and, decide_true, List.length_cons, List.length_nil, decide_eq_true_eq, Nat.zero_le, Nat.reduceLeDiff, Int.reduceLE, Int.reduceLT, Int.reducePow, Int.reduceNeg, Int.reduceToNat, ↓reduceIte, Bool.false_eq_true, Option.toList_some, Option.toList_none, List.append_nil, List.length_map]
    refine ok_cases (fun h2 => ?_) fun h2 => ?_
    · have hl2 : (0 : Int) < (ns.length : Int) := h2
      have hl : 0 < ns.length := by omega
      have i0 : 0 ≤ spot % (ns.length : Int) := Int.emod_nonneg _ (by omega)
      have i1 : spot % (ns.length : Int) < ns.length := Int.emod_lt_of_pos _ hl2
      have i2 : (spot % (ns.length : Int)).toNat < ns.length := by
        omega
      have i3 : (ns.map PyData.int)[(spot % (ns.length : Int)).toNat]? = some (.int (ns[(spot % (ns.length : Int)).toNat]'i2)) := by
        rw [List.getElem?_map, List.getElem?_eq_getElem i2]
        rfl
      simp only [mirS, List.all_cons, List.all_nil, Bool.and_true, Bool.true_and, decide_true, List.length_cons, List.length_nil, decide_eq_true_eq, Nat.zero_le, Nat.reduceLeDiff, Int.reduceLE, Int.reduceLT, Int.reducePow, Int.reduceNeg, Int.reduceToNat, ↓reduceIte, Bool.false_eq_true, Option.toList_some, Option.toList_none, List.append_nil, List.length_map, o_mod hl2, o_idx_l i0 i3]
      generalize ns[(spot % (ns.length : Int)).toNat]'i2 = z
      refine ok_cases (fun h3 => ?_) fun h3 => ?_
      · simp only [mirS, List.all_cons, List.all_nil, Bool.and_true, Bool.true_and, decide_true, List.length_cons, List.length_nil, decide_eq_true_eq, Nat.zero_le, Nat.reduceLeDiff, Int.reduceLE, Int.reduceLT, Int.reducePow, Int.reduceNeg, Int.reduceToNat, ↓reduceIte, Bool.false_eq_true, Option.toList_some, Option.toList_none, List.append_nil, List.length_map]
        refine ok_cases (fun h4 => ?_) fun h4 => ?_
        · simp only [mirS, List.all_cons, List.all_nil, Bool.and_true, Bool.true_and, decide_true, List.length_cons, List.length_nil, decide_eq_true_eq, Nat.zero_le, Nat.reduceLeDiff, Int.reduceLE, Int.reduceLT, Int.reducePow, Int.reduceNeg, Int.reduceToNat, ↓reduceIte, Bool.false_eq_true, Option.toList_some, Option.toList_none, List.append_nil, List.length_map, o_mod hm, o_fdiv hm hdv]
          exact ⟨_, _, _, rfl, v0 _, v1 _, by omega, by omega⟩
        · simp only [mirS, List.all_cons, List.all_nil, Bool.and_true, Bool.true_and, decide_true, List.length_cons, List.length_nil, decide_eq_true_eq, Nat.zero_le, Nat.reduceLeDiff, Int.reduceLE, Int.reduceLT, Int.reducePow, Int.reduceNeg, Int.reduceToNat, ↓reduceIte, Bool.false_eq_true, Option.toList_some, Option.toList_none, List.append_nil, List.length_map, m1, m2, o_mod hm]
          exact ⟨_, _, _, rfl, v0 _, v1 _, by omega, by omega⟩
      · simp only [mirS, List.all_cons, List.all_nil, Bool.and_true, Bool.true_and, decide_true, List.length_cons, List.length_nil, decide_eq_true_eq, Nat.zero_le, Nat.reduceLeDiff, Int.reduceLE, Int.reduceLT, Int.reducePow, Int.reduceNeg, Int.reduceToNat, ↓reduceIte, Bool.false_eq_true, Option.toList_some, Option.toList_none, List.append_nil, List.length_map, m1, m2, o_mod hm, if_neg Bool.false_ne_true]
        exact ⟨_, _, _, rfl, v0 _, v1 _, by omega, by omega⟩
    · simp only [mirS, List.all_cons, List.all_nil, Bool.and_true, Bool.true_and, decide_true, List.length_cons, List.length_nil, decide_eq_true_eq, Nat.zero_le, Nat.reduceLeDiff, Int.reduceLE, Int.reduceLT, Int.reducePow, Int.reduceNeg, Int.reduceToNat, ↓reduceIte, Bool.false_eq_true, Option.toList_some, Option.toList_none, List.append_nil, List.length_map]
      simp only [mirS, List.all_cons, List.all_nil, Bool.and_true, Bool.true_and, decide_true, List.length_cons, List.length_nil, decide_eq_true_eq, Nat.zero_le, Nat.reduceLeDiff, Int.reduceLE, Int.reduceLT, Int.reducePow, Int.reduceNeg, Int.reduceToNat, ↓reduceIte, Bool.false_eq_true, Option.toList_some, Option.toList_none, List.append_nil, List.length_map, m1, m2, o_mod hm, if_neg Bool.false_ne_true, reduceIte]
      exact ⟨_, _, _, rfl, v0 _, v1 _, by omega, by omega⟩
/-! ### webs -/
def pairD (p : Nat × Nat) : D := .tuple [.int (p.1 : Int), .int (p.2 : Int)]
def webD (m : Nat) (ts : List (Nat × Nat)) : D := .tuple [.int (m : Int), .tuple (ts.map pairD)]
theorem t_i0 {p q : D} : prim .idx [.tuple [p, q], .int 0] = .ok p := o_idx_t (by decide) rfl
theorem t_i1 {p q : D} : prim .idx [.tuple [p, q], .int 1] = .ok q := o_idx_t (by decide) rfl
theorem web_0 {m : Nat} {ts : List (Nat × Nat)} : prim .idx [webD m ts, .int 0] = .ok (.int (m : Int)) := t_i0
theorem web_1 {m : Nat} {ts : List (Nat × Nat)} : prim .idx [webD m ts, .int 1] = .ok (.tuple (ts.map pairD)) := t_i1
theorem pair_0 {p : Nat × Nat} : prim .idx [pairD p, .int 0] = .ok (.int (p.1 : Int)) := t_i0
theorem pair_1 {p : Nat × Nat} : prim .idx [pairD p, .int 1] = .ok (.int (p.2 : Int)) := t_i1
/-- the ties of place i with those behind it -/
def rowT (m i : Nat) : List (Nat × Nat) := (List.range (m - (i + 1))).map fun j => (i, i + 1 + j)
/-- all ties, in order -/
def fullT (m : Nat) : List (Nat × Nat) := (List.range m).flatMap (rowT m)
theorem rowT_mem {m i : Nat} {p : Nat × Nat} (h : p ∈ rowT m i) : p.1 = i ∧ i < p.2 ∧ p.2 < m := by
  unfold rowT at h
  obtain ⟨j, hj, rfl⟩ := List.mem_map.mp h
  have := List.mem_range.mp hj
  refine ⟨rfl, ?_, ?_⟩ <;> dsimp only <;> omega
theorem mem_rowT {m i j : Nat} (h1 : i < j) (h2 : j < m) : (i, j) ∈ rowT m i := by
  unfold rowT
  exact List.mem_map.mpr ⟨j - (i + 1), List.mem_range.mpr (by omega), by rw [show i + 1 + (j - (i + 1)) = j by omega]⟩
theorem fullT_mem {m : Nat} {p : Nat × Nat} : p ∈ fullT m ↔ p.1 < p.2 ∧ p.2 < m := by
  unfold fullT
  rw [List.mem_flatMap]
  constructor
  · rintro ⟨i, hi, hp⟩
    obtain ⟨e, h1, h2⟩ := rowT_mem hp
    exact ⟨by omega, h2⟩
  · rintro ⟨h1, h2⟩
    exact ⟨p.1, List.mem_range.mpr (by omega), mem_rowT h1 h2⟩
theorem flatMap_succ {α : Type} (f : Nat → List α) (n : Nat) : (List.range (n + 1)).flatMap f = (List.range n).flatMap f ++ f n := by
  rw [List.range_succ, List.flatMap_append]
  simp
theorem rows_len (m k : Nat) : ((List.range k).flatMap (rowT m)).length ≤ k * m := by
  induction k with
  | zero => simp
  | succ k ih =>
    rw [flatMap_succ, List.length_append, Nat.succ_mul]
    have : (rowT m k).length ≤ m := by
      unfold rowT
      rw [List.length_map, List.length_range]
      omega
    omega
theorem fullT_len (m : Nat) : (fullT m).length ≤ m * m := rows_len m m
/-- a web: its ties in order -/
def Web (m : Nat) (ts : List (Nat × Nat)) : Prop := ts.Sublist (fullT m)
theorem Web.mem {m : Nat} {ts : List (Nat × Nat)} (h : Web m ts) {p : Nat × Nat} (hp : p ∈ ts) : p.1 < p.2 ∧ p.2 < m := fullT_mem.mp (h.subset hp)
theorem Web.len {m : Nat} {ts : List (Nat × Nat)} (h : Web m ts) : ts.length ≤ m * m := Nat.le_trans h.length_le (fullT_len m)
theorem nat_small {i k : Nat} (h : i ≤ 1000) : Nice (.int (i : Int)) k 1 := nice_int (by rw [Int.natAbs_natCast]; exact Nat.lt_of_le_of_lt h (Nat.lt_of_lt_of_le (show (1000 : Nat) < 2 ^ 10 by decide) (pow_le (by decide))))
theorem nice_pair {p : Nat × Nat} {k : Nat} (h1 : p.1 ≤ 1000) (h2 : p.2 ≤ 1000) : Nice (pairD p) (k + 1) 3 := nice_tuple (niceL_cons (nat_small h1) (niceL_cons (nat_small h2) niceL_nil))
theorem niceL_pairs {ts : List (Nat × Nat)} {k : Nat} (h : ∀ p ∈ ts, p.1 ≤ 1000 ∧ p.2 ≤ 1000) : NiceL (ts.map pairD) (k + 1) (3 * ts.length) := niceL_map fun p hp => nice_pair (h p hp).1 (h p hp).2
theorem nice_web {m : Nat} {ts : List (Nat × Nat)} (hm : m ≤ 1000) (h : ∀ p ∈ ts, p.1 ≤ 1000 ∧ p.2 ≤ 1000) {k : Nat} : Nice (webD m ts) (k + 3) (3 + 3 * ts.length) :=
  (nice_tuple (niceL_cons (nat_small (k := k + 2) hm) (niceL_cons (nice_tuple (niceL_pairs (k := k) h)) niceL_nil))).mono (Nat.le_refl _) (by omega)
def webGenD (d : Nat) : FDef := ⟨3, 8, [0], [.set (.nm 3) (.p .add [.o 1, .call d [.o 0, .p .add [.p .sub [.o 2, .o 1], .c (.int 1)]] [0]]),
.set (.nm 4) (.p .idx [.disp false [.c (.int 2), .c (.int 3), .c (.int 2), .c (.int 4), .c (.int 1), .c (.int 9)], .call d [.o 0, .c (.int 6)] [0]]),
.set (.nm 5) (.disp false []),
.for_ .rng [.v 3] (.nm 6) [.ext 5 (.comp .rng [.p .add [.o 6, .c (.int 1)], .v 3] (.nm 7) [.p .eq [.call d [.o 0, .v 4] [0], .c (.int 0)]] (.disp true [.v 6, .v 7]))],
.ret (.disp true [.v 3, .p .tuple [.o 5]])]⟩
theorem menu_P (ms : List Int) {P : Int → Prop} (hb : ∀ x ∈ ms, P x) {v : Int} (h0 : 0 ≤ v) (h1 : v < ms.length) : ∃ m, prim .idx [.list (ms.map PyData.int), .int v] = .ok (.int m) ∧ P m :=
  ⟨_, idx_ints_l h0 (by omega), hb _ (List.getElem_mem _)⟩
theorem d2 {T : List FDef} {M i m : Nat} (hT : T[i]? = some drawD2) {ns : List Int} {s l many : Int} (h0 : 0 ≤ s) (h1 : s < 2 ^ 40) (hm : 0 < many) (hd : many < 2 ^ 200) : Ok (callF T M (m + 1) i [tp ns s l, .int many]) fun p => ∃ v s' l', p = (.int v, [tp ns s' l']) ∧ 0 ≤ v ∧ v < many ∧ s ≤ s' ∧ s' ≤ s + 1 :=
  draw2_ok hT h0 h1 hm (Int.lt_of_lt_of_le hd (by decide +kernel))
theorem webGen_ok {T : List FDef} {M n i d : Nat} (hT : T[i]? = some (webGenD d)) (hd : T[d]? = some drawD2) {ns : List Int} {s l : Int} {least most : Nat} (h0 : 0 ≤ s) (h1 : s < 2 ^ 30) (hl : least ≤ most) (hm : most ≤ 12) :
    Ok (callF T M (n + 2) i [tp ns s l, .int (least : Int), .int (most : Int)]) fun p => ∃ m ts s' l', p = (webD m ts, [tp ns s' l']) ∧ least ≤ m ∧ m ≤ most ∧ Web m ts ∧ s ≤ s' ∧ s' ≤ s + 200 := by
  refine call_ok hT rfl ?_
  unfold webGenD
  simp only [mirS, List.all_cons, List.all_nil, Bool.and_true, Bool.true_and, decide_true, List.length_cons, List.length_nil, decide_eq_true_eq, Nat.zero_le, Nat.reduceLeDiff, Int.reduceLE, Int.reduceLT, Int.reducePow, Int.reduceNeg, Int.reduceToNat, ↓reduceIte, Bool.false_eq_true, Option.toList_some, Option.toList_none, List.append_nil, List.length_map, List.map_cons, List.map_nil, List.cons_append, List.nil_append, Nat.reduceSub, List.replicate]
  refine (d2 hd (by omega) (by omega) (by omega) (by omega)).mono ?_
  rintro _ ⟨v, s1, l1, rfl, hv0, hv1, hs0, hs1⟩
  simp only [mirS, List.all_cons, List.all_nil, Bool.and_true, Bool.true_and, decide_true, List.length_cons, List.length_nil, decide_eq_true_eq, Nat.zero_le, Nat.reduceLeDiff, Int.reduceLE, Int.reduceLT, Int.reducePow, Int.reduceNeg, Int.reduceToNat, ↓reduceIte, Bool.false_eq_true, Option.toList_some, Option.toList_none, List.append_nil, List.length_map]
  refine (d2 hd (by omega) (by omega) (by decide) (by decide)).mono ?_
  rintro _ ⟨u, s2, l2, rfl, hu0, hu1, hs2, hs3⟩
  obtain ⟨r, er, hr⟩ := menu_P [2, 3, 2, 4, 1, 9] (P := fun r => 0 < r ∧ r < 10) (by decide) hu0 hu1
  rw [show List.map PyData.int [2, 3, 2, 4, 1, 9] = [.int 2, .int 3, .int 2, .int 4, .int 1, .int 9] from rfl] at er
  obtain ⟨m, em⟩ : ∃ m : Nat, (least : Int) + v = (m : Int) := ⟨((least : Int) + v).toNat, by omega⟩
  have hm1 : least ≤ m := by omega
  have hm2 : m ≤ most := by omega
  simp only [mirS, List.all_cons, List.all_nil, Bool.and_true, Bool.true_and, decide_true, List.length_cons, List.length_nil, decide_eq_true_eq, Nat.zero_le, Nat.reduceLeDiff, Int.reduceLE, Int.reduceLT, Int.reducePow, Int.reduceNeg, Int.reduceToNat, ↓reduceIte, Bool.false_eq_true, Option.toList_some, Option.toList_none, List.append_nil, List.length_map, List.map_cons, List.map_nil, List.cons_append, List.nil_append, Nat.reduceSub, List.replicate, er, em, it_rng1 (n := (m : Int)) (rngOk_s (by omega) (by omega)), natCast_toNat]
  refine for_rng0 (fun i ε => ∃ (ts : List (Nat × Nat)) (s' l' : Int) (y6 y7 : Option D), ε = [some (tp ns s' l'), some (.int (least : Int)), some (.int (most : Int)), some (.int (m : Int)), some (.int r), some (.list (ts.map pairD)), y6, y7] ∧ ts.Sublist ((List.range i).flatMap (rowT m)) ∧ s2 ≤ s' ∧ s' ≤ s2 + 12 * i) ⟨[], s2, l2, none, none, rfl, List.nil_sublist _, by omega, by omega⟩ ?_ ?_
  · rintro i ε hi ⟨ts, s', l', y6, y7, rfl, hts, q1, q2⟩
    have e1 : ((m : Int) - ((i : Int) + 1)).toNat = m - (i + 1) := by omega
    simp only [mirS, List.all_cons, List.all_nil, Bool.and_true, Bool.true_and, decide_true, List.length_cons, List.length_nil, decide_eq_true_eq, Nat.zero_le, Nat.reduceLeDiff, Int.reduceLE, Int.reduceLT, Int.reducePow, Int.reduceNeg, Int.reduceToNat, ↓reduceIte, Bool.false_eq_true, Option.toList_some, Option.toList_none, List.append_nil, List.length_map, it_rng2 (a := (i : Int) + 1) (b := (m : Int)) (rngOk_s (by omega) (by omega)) (rngOk_s (by omega) (by omega)), e1]
    refine comp_rng (fun j acc ε => ∃ (us : List (Nat × Nat)) (s' l' : Int) (y7 : Option D), ε = [some (tp ns s' l'), some (.int (least : Int)), some (.int (most : Int)), some (.int (m : Int)), some (.int r), some (.list (ts.map pairD)), some (.int (i : Int)), y7] ∧ acc = us.map pairD ∧ us.Sublist ((List.range j).map fun t => (i, i + 1 + t)) ∧ s2 ≤ s' ∧ s' ≤ s2 + 12 * i + j) ⟨[], s', l', _, rfl, rfl, List.nil_sublist _, by omega, by omega⟩ ?_ ?_
    · rintro j acc ε hj ⟨us, s'', l'', y7, rfl, rfl, hus, q3, q4⟩
      simp only [mirS, List.all_cons, List.all_nil, Bool.and_true, Bool.true_and, decide_true, List.length_cons, List.length_nil, decide_eq_true_eq, Nat.zero_le, Nat.reduceLeDiff, Int.reduceLE, Int.reduceLT, Int.reducePow, Int.reduceNeg, Int.reduceToNat, ↓reduceIte, Bool.false_eq_true, Option.toList_some, Option.toList_none, List.append_nil, List.length_map]
      refine (d2 hd (by omega) (by omega) (by omega) (by omega)).mono ?_
      rintro _ ⟨w, s5, l5, rfl, hw0, hw1, hs10, hs11⟩
      simp only [mirS, List.all_cons, List.all_nil, Bool.and_true, Bool.true_and, decide_true, List.length_cons, List.length_nil, decide_eq_true_eq, Nat.zero_le, Nat.reduceLeDiff, Int.reduceLE, Int.reduceLT, Int.reducePow, Int.reduceNeg, Int.reduceToNat, ↓reduceIte, Bool.false_eq_true, Option.toList_some, Option.toList_none, List.append_nil, List.length_map]
      refine ok_cases (fun h => ?_) fun h => ?_
      · simp only [mirS, List.all_cons, List.all_nil, Bool.and_true, Bool.true_and, decide_true, List.length_cons, List.length_nil, decide_eq_true_eq, Nat.zero_le, Nat.reduceLeDiff, Int.reduceLE, Int.reduceLT, Int.reducePow, Int.reduceNeg, Int.reduceToNat, ↓reduceIte, Bool.false_eq_true, Option.toList_some, Option.toList_none, List.append_nil, List.length_map]
        refine ⟨us ++ [(i, i + 1 + j)], s5, l5, _, rfl, ?_, ?_, by omega, by omega⟩
        · rw [List.map_append]
          have : pairD (i, i + 1 + j) = .tuple [.int (i : Int), .int ((i : Int) + 1 + j)] := by
            unfold pairD
            congr 4
          rw [List.map_singleton, this]
        · rw [List.range_succ, List.map_append]
          exact hus.append (List.Sublist.refl _)
      · simp only [mirS, List.all_cons, List.all_nil, Bool.and_true, Bool.true_and, decide_true, List.length_cons, List.length_nil, decide_eq_true_eq, Nat.zero_le, Nat.reduceLeDiff, Int.reduceLE, Int.reduceLT, Int.reducePow, Int.reduceNeg, Int.reduceToNat, ↓reduceIte, Bool.false_eq_true, Option.toList_some, Option.toList_none, List.append_nil, List.length_map]
        refine ⟨us, s5, l5, _, rfl, rfl, ?_, by omega, by omega⟩
        rw [List.range_succ, List.map_append]
        exact hus.trans (List.sublist_append_left _ _)
    · rintro ys ε ⟨us, s'', l'', y7, rfl, rfl, hus, q3, q4⟩
      have hlu : us.length ≤ 12 := by
        have := hus.length_le
        rw [List.length_map, List.length_range] at this
        omega
      have hlt : ts.length ≤ 12 * 12 := by
        have h3 := hts.length_le
        have h4 := rows_len m i
        have : i * m ≤ 12 * 12 := Nat.mul_le_mul (by omega) (by omega)
        omega
      simp only [mirS, List.all_cons, List.all_nil, Bool.and_true, Bool.true_and, decide_true, List.length_cons, List.length_nil, decide_eq_true_eq, Nat.zero_le, Nat.reduceLeDiff, Int.reduceLE, Int.reduceLT, Int.reducePow, Int.reduceNeg, Int.reduceToNat, ↓reduceIte, Bool.false_eq_true, Option.toList_some, Option.toList_none, List.append_nil, List.length_map, g_fit (show us.length ≤ 1000 by omega), g_fit (show ts.length + us.length ≤ 1000 by omega)]
      refine ⟨ts ++ us, s'', l'', _, _, by rw [List.map_append], ?_, by omega, by omega⟩
      rw [flatMap_succ]
      exact hts.append hus
  · rintro ε ⟨ts, s', l', y6, y7, rfl, hts, q1, q2⟩
    simp only [mirS, List.all_cons, List.all_nil, Bool.and_true, Bool.true_and, decide_true, List.length_cons, List.length_nil, decide_eq_true_eq, Nat.zero_le, Nat.reduceLeDiff, Int.reduceLE, Int.reduceLT, Int.reducePow, Int.reduceNeg, Int.reduceToNat, ↓reduceIte, Bool.false_eq_true, Option.toList_some, Option.toList_none, List.append_nil, List.length_map]
    exact ⟨m, ts, s', l', rfl, by omega, by omega, hts, by omega, by omega⟩
end Mir.P
/-! Mir, part W2: lists of pairs put in order; choosing. -/
namespace Mir.P
open PySem
set_option maxHeartbeats 2000000
section
abbrev Ties := List (Nat × Nat)
/-! ### in order -/
def ord (ps : Ties) : List D := (ps.map pairD).mergeSort leB
theorem sortOk_pairs {ps : Ties} (h : ps.length ≤ 1000) : sortOk (ps.map pairD) = true := by
  unfold sortOk
  simp only [Bool.and_eq_true, Bool.or_eq_true, List.all_eq_true, decide_eq_true_eq]
  refine ⟨⟨⟨?_, .inl ?_⟩, ?_⟩, ?_⟩
  · intro x hx y hy
    obtain ⟨p, _, rfl⟩ := List.mem_map.mp hx
    obtain ⟨q, _, rfl⟩ := List.mem_map.mp hy
    simp [pairD, PySem.W.alike, PySem.W.alikeAll]
  · intro x hx
    obtain ⟨p, _, rfl⟩ := List.mem_map.mp hx
    rfl
  · clear h
    induction ps with
    | nil => simp [PyData.depthAll]
    | cons p ps ih =>
      rw [List.map_cons, PyData.depthAll]
      have : (pairD p).depth ≤ 100 := by simp [pairD, PyData.depth, PyData.depthAll]
      exact Nat.max_le.mpr ⟨this, ih⟩
  · rw [List.length_map]
    exact decide_eq_true (Nat.le_trans h (by decide))
theorem o_sorted_l {ps : Ties} (h : ps.length ≤ 1000) : prim .sorted [.list (ps.map pairD)] = .ok (.list (ord ps)) := by
  show (Res.guard (sortOk (ps.map pairD)) >>= fun _ => Res.ok (PyData.list ((ps.map pairD).mergeSort leB))) = _
  rw [guard_of (sortOk_pairs h)]
  rfl
theorem o_sorted_t {ps : Ties} (h : ps.length ≤ 1000) : prim .sorted [.tuple (ps.map pairD)] = .ok (.list (ord ps)) := by
  show (Res.guard (sortOk (ps.map pairD)) >>= fun _ => Res.ok (PyData.list ((ps.map pairD).mergeSort leB))) = _
  rw [guard_of (sortOk_pairs h)]
  rfl
def ordWeb (m : Nat) (ps : Ties) : D := .tuple [.int (m : Int), .tuple (ord ps)]
theorem niceL_perm {xs ys : List D} (p : xs.Perm ys) : ∀ {k m : Nat}, NiceL xs k m → NiceL ys k m := by
  induction p with
  | nil => intro k m h; exact h
  | cons x p ih =>
    intro k m h
    obtain ⟨h1, _, h2⟩ := niceL_tail h
    have hn := h.nod
    simp only [nodesL] at hn
    exact niceL_mono (niceL_cons ⟨h1.smp, h1.dep, Nat.le_refl _, h1.pl⟩ (ih h2)) (Nat.le_refl _) (by omega)
  | swap x y l =>
    intro k m h
    obtain ⟨h1, _, h2⟩ := niceL_tail h
    obtain ⟨h3, _, h4⟩ := niceL_tail h2
    have hn := h.nod
    simp only [nodesL] at hn
    exact niceL_mono (niceL_cons ⟨h3.smp, h3.dep, Nat.le_refl _, h3.pl⟩ (niceL_cons ⟨h1.smp, h1.dep, Nat.le_refl _, h1.pl⟩ h4)) (Nat.le_refl _) (by omega)
  | trans p q ih1 ih2 => intro k m h; exact ih2 (ih1 h)
def Small (ps : Ties) : Prop := ∀ p ∈ ps, p.1 ≤ 1000 ∧ p.2 ≤ 1000
theorem nice_ord {m : Nat} {ps : Ties} (hm : m ≤ 1000) (h : Small ps) (hl : ps.length ≤ 300) : Nice (ordWeb m ps) 4 903 :=
  (nice_tuple (niceL_cons (nat_small (k := 3) hm) (niceL_cons (nice_tuple (niceL_perm (List.mergeSort_perm (ps.map pairD) leB).symm (niceL_pairs (k := 1) h))) niceL_nil))).mono (Nat.le_refl _) (by omega)

theorem o_mergeSort_pairs (ps : Ties) : ord ps = (ps.mergeSort fun p q => decide (p.1 < q.1 ∨ (p.1 = q.1 ∧ p.2 ≤ q.2))).map pairD := by
  unfold ord
  refine (List.map_mergeSort ?_).symm
  intro p _ q _
  show _ = !PySem.W.dataLt (pairD q) (pairD p)
  unfold pairD
  rw [PySem.W.dataLt_ii]
  rw [Bool.eq_iff_iff]
  simp only [decide_eq_true_eq, Bool.not_eq_true', decide_eq_false_iff_not]
  omega
/-- the list in order is the one that is -/
theorem ord_is {ps qs : Ties} (hp : ps.Perm qs) (hq : qs.Pairwise fun p q => p.1 < q.1 ∨ (p.1 = q.1 ∧ p.2 ≤ q.2)) : ord ps = qs.map pairD := by
  rw [o_mergeSort_pairs]
  congr 1
  have h1 : (ps.mergeSort fun p q => decide (p.1 < q.1 ∨ (p.1 = q.1 ∧ p.2 ≤ q.2))).Pairwise fun p q => p.1 < q.1 ∨ (p.1 = q.1 ∧ p.2 ≤ q.2) := by
    have := List.pairwise_mergeSort (le := fun (p q : Nat × Nat) => decide (p.1 < q.1 ∨ (p.1 = q.1 ∧ p.2 ≤ q.2))) (by
      intro a b c h1 h2
      simp only [decide_eq_true_eq] at h1 h2 ⊢
      omega) (by
      intro a b
      simp only [Bool.or_eq_true, decide_eq_true_eq]
      omega) ps
    exact this.imp fun h => by simpa using h
  refine List.Perm.eq_of_pairwise ?_ h1 hq ((List.mergeSort_perm ..).trans hp)
  intro a b _ _ h1 h2
  exact Prod.ext (by omega) (by omega)
/-! ### choosing -/
def ch : Nat → Nat → Nat
  | _, 0 => 1
  | 0, _ + 1 => 0
  | n + 1, k + 1 => ch n k + ch n (k + 1)
theorem ch_zero (n : Nat) : ch n 0 = 1 := by cases n <;> rfl
theorem ch_out : ∀ {n k : Nat}, n < k → ch n k = 0
  | 0, k + 1, _ => rfl
  | n + 1, k + 1, h => by
    show ch n k + ch n (k + 1) = 0
    rw [ch_out (by omega), ch_out (by omega)]
theorem ch_step : ∀ (n k : Nat), ch n (k + 1) * (k + 1) = ch n k * (n - k)
  | 0, k => by
    show 0 * (k + 1) = _
    rw [Nat.zero_sub, Nat.mul_zero, Nat.zero_mul]
  | n + 1, 0 => by
    show (ch n 0 + ch n 1) * 1 = ch (n + 1) 0 * (n + 1 - 0)
    have := ch_step n 0
    rw [ch_zero] at this ⊢
    rw [ch_zero]
    simp at this ⊢
    omega
  | n + 1, k + 1 => by
    show (ch n (k + 1) + ch n (k + 2)) * (k + 2) = (ch n k + ch n (k + 1)) * (n + 1 - (k + 1))
    have h1 := ch_step n k
    have h2 := ch_step n (k + 1)
    rw [Nat.add_sub_add_right]
    by_cases h : k < n
    · have e : n - k = (n - (k + 1)) + 1 := by omega
      rw [e] at h1 ⊢
      generalize n - (k + 1) = m at *
      generalize ch n (k + 1) = a at *
      generalize ch n (k + 2) = b at *
      generalize ch n k = c at *
      grind
    · rw [ch_out (n := n) (k := k + 1) (by omega), ch_out (n := n) (k := k + 2) (by omega), show n - k = 0 by omega]
      simp
theorem ch_le : ∀ (n k : Nat), ch n k ≤ 2 ^ n
  | n, 0 => by rw [ch_zero]; exact Nat.one_le_two_pow
  | 0, k + 1 => Nat.zero_le _
  | n + 1, k + 1 => by
    show ch n k + ch n (k + 1) ≤ _
    have h1 := ch_le n k
    have h2 := ch_le n (k + 1)
    rw [Nat.pow_succ]
    omega
def chosenD : FDef := ⟨2, 4, [], [.set (.nm 2) (.c (.int 1)),
.for_ .rng [.v 1] (.nm 3) [.set (.nm 2) (.p .fdiv [.p .mul [.o 2, .p .sub [.o 0, .o 3]], .p .add [.o 3, .c (.int 1)]])],
.ret (.mv 2)]⟩
theorem chosen_ok {T : List FDef} {M m i : Nat} (hT : T[i]? = some chosenD) {n k : Nat} (hk : k ≤ n) (hn : n ≤ 10000) : Ok (callF T M (m + 1) i [.int (n : Int), .int (k : Int)]) fun p => p = (.int (ch n k : Int), []) := by
  refine call_ok hT rfl ?_
  unfold chosenD
  simp only [mirS, List.all_cons, List.all_nil, Bool.and_true, Bool.true_and, decide_true, List.length_cons, List.length_nil, decide_eq_true_eq, Nat.zero_le, Nat.reduceLeDiff, Int.reduceLE, Int.reduceLT, Int.reducePow, Int.reduceNeg, Int.reduceToNat, ↓reduceIte, Bool.false_eq_true, Option.toList_some, Option.toList_none, List.append_nil, List.length_map, List.map_cons, List.map_nil, List.cons_append, List.nil_append, Nat.reduceSub, List.replicate, it_rng1 (n := (k : Int)) (rngOk_s (by omega) (by omega)), natCast_toNat]
  refine for_rng0 (fun j ε => ∃ y, ε = [some (.int (n : Int)), some (.int (k : Int)), some (.int (ch n j : Int)), y] ∧ j ≤ k) ⟨none, by rw [ch_zero]; rfl, Nat.zero_le _⟩ ?_ ?_
  · rintro j ε hj ⟨y, rfl, hjk⟩
    have m1 : -9223372036854775808 ≤ (n : Int) - (j : Int) := by omega
    have m2 : (n : Int) - (j : Int) < 9223372036854775808 := by omega
    have m3 : 0 < (j : Int) + 1 := by omega
    have m4 : (j : Int) + 1 < 9223372036854775808 := by omega
    have e : (ch n j : Int) * ((n : Int) - (j : Int)) / ((j : Int) + 1) = (ch n (j + 1) : Int) := by
      have h1 := ch_step n j
      have h2 : (ch n j : Int) * ((n : Int) - (j : Int)) = (ch n (j + 1) : Int) * ((j : Int) + 1) := by
        have : ((n - j : Nat) : Int) = (n : Int) - (j : Int) := by omega
        rw [← this]
        have := congrArg (fun x : Nat => (x : Int)) h1
        simp only [Int.natCast_mul] at this
        rw [← this]
        rfl
      rw [h2]
      exact Int.mul_ediv_cancel _ (by omega)
    simp only [mirS, List.all_cons, List.all_nil, Bool.and_true, Bool.true_and, decide_true, List.length_cons, List.length_nil, decide_eq_true_eq, Nat.zero_le, Nat.reduceLeDiff, Int.reduceLE, Int.reduceLT, Int.reducePow, Int.reduceNeg, Int.reduceToNat, ↓reduceIte, Bool.false_eq_true, Option.toList_some, Option.toList_none, List.append_nil, List.length_map, m1, m2, m3, m4, e]
    exact ⟨_, rfl, by omega⟩
  · rintro ε ⟨y, rfl, _⟩
    simp only [mirS, List.all_cons, List.all_nil, Bool.and_true, Bool.true_and, decide_true, List.length_cons, List.length_nil, decide_eq_true_eq, Nat.zero_le, Nat.reduceLeDiff, Int.reduceLE, Int.reduceLT, Int.reducePow, Int.reduceNeg, Int.reduceToNat, ↓reduceIte, Bool.false_eq_true, Option.toList_some, Option.toList_none, List.append_nil, List.length_map]
end
end Mir.P
set_option exponentiation.threshold 4000
/-! Mir, part Tx: webs written and read. -/
namespace Mir.P
open PySem
set_option maxHeartbeats 4000000
def numS (n : Nat) : Str := Str.ofString (toString ((n : Nat) : Int))
theorem numS_tl (n : Nat) : TL.tl (numS n) = TL.numL n := TL.tl_num n
theorem numS_len (n : Nat) : (numS n).length = (TL.numL n).length := by rw [TL.len_tl, numS_tl]
theorem numL_pos (n : Nat) : 0 < (TL.numL n).length := List.length_pos_iff.mpr (TL.numL_ne n)
theorem num_small {n : Nat} (h : n < 1000000) : ((n : Int)).natAbs.log2 < 1920 := by
  rw [Int.natAbs_natCast]
  have : n < 2 ^ 20 := Nat.lt_of_lt_of_le h (by decide)
  exact Nat.lt_of_lt_of_le (log2_lt this (by decide)) (by decide)
theorem o_str {n : Nat} (h : n < 1000000) : prim .str [.int (n : Int)] = .ok (.str (numS n)) := by
  show (Res.guard (decide ((n : Int).natAbs.log2 < 1920)) >>= fun _ => Res.ok (PyData.str (Str.ofString (toString (n : Int))))) = _
  rw [guard_of (decide_eq_true (num_small h))]
  rfl
/-- the first figure is no 0 but in 0 itself -/
theorem numL_head : ∀ (n : Nat), 1 ≤ n → ∃ c r, TL.numL n = c :: r ∧ c ≠ 48 := by
  intro n
  induction n using Nat.strongRecOn with
  | _ n ih =>
    intro h
    by_cases h10 : n < 10
    · exact ⟨48 + n, [], TL.numL_lt h10, by omega⟩
    · obtain ⟨c, r, e, hc⟩ := ih (n / 10) (by omega) (by omega)
      exact ⟨c, r ++ [48 + n % 10], by rw [TL.numL_step (by omega), e]; rfl, hc⟩
def tieS (p : Nat × Nat) : Str := numS p.1 ++ "-" ++ numS p.2
theorem tieS_join (p : Nat × Nat) : tieS p = Txt.join "-" [numS p.1, numS p.2] := by
  rw [TL.join_eq]
  rfl
theorem tl_dash : TL.tl ("-" : Str) = [45] := by decide +kernel
theorem tl_blank : TL.tl (" " : Str) = [32] := by decide +kernel
theorem tieS_tl (p : Nat × Nat) : TL.tl (tieS p) = TL.numL p.1 ++ [45] ++ TL.numL p.2 := by
  unfold tieS
  rw [TL.tl_append, TL.tl_append, numS_tl, numS_tl, tl_dash]
theorem split_tie (p : Nat × Nat) : Txt.split (tieS p) "-" = [numS p.1, numS p.2] := by
  rw [tieS_join]
  refine TL.split_join (s := 45) (S := []) tl_dash (by decide +kernel) (by simp) fun q hq => ?_
  simp only [List.mem_cons, List.not_mem_nil, or_false] at hq
  rcases hq with rfl | rfl
  · rw [numS_tl]
    exact TL.numL_free (.inl (by decide))
  · rw [numS_tl]
    exact TL.numL_free (.inl (by decide))
def wordsS (n : Nat) (ts : Ties) : List Str := numS n :: ts.map tieS
def webS (n : Nat) (ts : Ties) : Str := Txt.join " " (wordsS n ts)
theorem split_web (n : Nat) (ts : Ties) : Txt.split (webS n ts) " " = wordsS n ts := by
  refine TL.split_join (s := 32) (S := []) tl_blank (by decide +kernel) (by simp [wordsS]) fun q hq => ?_
  rcases List.mem_cons.mp hq with rfl | hq
  · rw [numS_tl]
    exact TL.numL_free (.inl (by decide))
  · obtain ⟨p, _, rfl⟩ := List.mem_map.mp hq
    rw [tieS_tl]
    intro h
    rcases List.mem_append.mp h with h | h
    · rcases List.mem_append.mp h with h | h
      · exact TL.numL_free (.inl (by decide)) h
      · simp at h
    · exact TL.numL_free (.inl (by decide)) h
theorem joinL_len (S : List Nat) : ∀ ps : List (List Nat), (TL.joinL S ps).length ≤ (ps.map List.length).sum + ps.length * S.length
  | [] => by simp [TL.joinL]
  | [p] => by simp [TL.joinL]
  | p :: q :: r => by
    have := joinL_len S (q :: r)
    show (p ++ (S ++ TL.joinL S (q :: r))).length ≤ _
    rw [List.length_append, List.length_append, List.map_cons, List.sum_cons, List.length_cons, Nat.add_mul]
    omega
theorem numS_le {n : Nat} (h : n < 10000) : 1 ≤ (numS n).length ∧ (numS n).length ≤ 4 := by
  rw [numS_len]
  exact ⟨numL_pos n, TL.numL_len (k := 4) (by decide) (by omega)⟩
theorem tieS_le {p : Nat × Nat} (h1 : p.1 < 10000) (h2 : p.2 < 10000) : (tieS p).length ≤ 9 := by
  rw [TL.len_tl, tieS_tl, List.length_append, List.length_append, ← numS_len, ← numS_len]
  have := (numS_le h1).2
  have := (numS_le h2).2
  simp only [List.length_singleton]
  omega
theorem sumN_le {l : List Nat} {b : Nat} (h : ∀ x ∈ l, x ≤ b) : l.sum ≤ l.length * b := by
  induction l with
  | nil => simp
  | cons x l ih =>
    have h1 := h x List.mem_cons_self
    have h2 := ih fun y hy => h y (List.mem_cons_of_mem _ hy)
    rw [List.sum_cons, List.length_cons, Nat.add_mul]
    omega
theorem words_len {n : Nat} {ts : Ties} (hn : n < 10000) (ht : ∀ p ∈ ts, p.1 < p.2 ∧ p.2 < n) : ((wordsS n ts).map (·.length)).sum + (wordsS n ts).length * (" " : Str).length ≤ 10 * (ts.length + 1) := by
  have e : (" " : Str).length = 1 := by decide +kernel
  have h1 : ((wordsS n ts).map (·.length)).sum ≤ ((wordsS n ts).map (·.length)).length * 9 := sumN_le fun x hx => by
    obtain ⟨w, hw, rfl⟩ := List.mem_map.mp hx
    rcases List.mem_cons.mp hw with rfl | hw
    · have := (numS_le hn).2
      omega
    · obtain ⟨p, hp, rfl⟩ := List.mem_map.mp hw
      have := ht p hp
      exact tieS_le (by omega) (by omega)
  have h2 : (wordsS n ts).length = ts.length + 1 := by
    unfold wordsS
    rw [List.length_cons, List.length_map]
  rw [e, h2]
  rw [List.length_map, h2] at h1
  omega
theorem webS_len {n : Nat} {ts : Ties} (hn : n < 10000) (ht : ∀ p ∈ ts, p.1 < p.2 ∧ p.2 < n) : (webS n ts).length ≤ 10 * (ts.length + 1) := by
  unfold webS
  have h := words_len hn ht
  rw [TL.len_tl, TL.join_eq, TL.tl_join]
  refine Nat.le_trans (joinL_len _ _) ?_
  have e1 : ((wordsS n ts).map TL.tl).map List.length = (wordsS n ts).map (·.length) := by
    rw [List.map_map]
    exact List.map_congr_left fun x _ => (TL.len_tl x).symm
  have e2 : (TL.tl (" " : Str)).length = (" " : Str).length := (TL.len_tl _).symm
  rw [e1, e2, List.length_map]
  exact h
theorem strsOf_map : ∀ ys : List Str, strsOf (ys.map PyData.str) = .ok ys
  | [] => rfl
  | y :: ys => by
    show (strsOf (ys.map PyData.str) >>= fun l => Res.ok (y :: l)) = _
    rw [strsOf_map ys]
    rfl
theorem o_join {sep : Str} {ys : List Str} (h : (ys.map (·.length)).sum + ys.length * sep.length ≤ 16777216) : prim (.join sep) [.list (ys.map PyData.str)] = .ok (.str (Txt.join sep ys)) := by
  show (strsOf (ys.map PyData.str) >>= fun ys => Res.guard (decide ((ys.map (·.length)).sum + ys.length * sep.length ≤ 16777216)) >>= fun _ => Res.ok (PyData.str (Txt.join sep ys))) = _
  rw [strsOf_map, bind_ok, guard_of (decide_eq_true h)]
  rfl
theorem o_split {sep a : Str} (h0 : (sep.length == 0) = false) (h : a.length ≤ 1000000) : prim (.split sep) [.str a] = .ok (.list ((Txt.split a sep).map PyData.str)) := by
  show (Res.guard (!(sep.length == 0) && decide (a.length + 2 ≤ sizeLine)) >>= fun _ => Res.ok (PyData.list ((Txt.split a sep).map PyData.str))) = _
  have e : sizeLine = 2 ^ 24 := rfl
  rw [guard_of (by rw [h0, decide_eq_true (show a.length + 2 ≤ sizeLine by omega)]; rfl)]
  rfl
theorem o_adds {a b : Str} (h : a.length + b.length ≤ 1000000) : prim .add [.str a, .str b] = .ok (.str (a ++ b)) := by
  show (Res.guard (fitN (a.length + b.length)) >>= fun _ => Res.ok (PyData.str (a ++ b))) = _
  have e : sizeLine = 2 ^ 24 := rfl
  rw [guard_of (show fitN _ = true from decide_eq_true (by omega))]
  rfl
theorem pAdd_w {xs ys : List D} (h : xs.length + ys.length ≤ 100000) : prim .add [.list xs, .list ys] = .ok (.list (xs ++ ys)) := by
  show (Res.guard (fitN (xs.length + ys.length)) >>= fun _ => Res.ok (PyData.list (xs ++ ys))) = _
  have e : sizeLine = 2 ^ 24 := rfl
  rw [guard_of (show fitN _ = true from decide_eq_true (by omega))]
  rfl
theorem g_fitW {n : Nat} (h : n ≤ 100000) : Res.guard (fitN n) = .ok () := guard_of (decide_eq_true (by have e : sizeLine = 2 ^ 24 := rfl; omega))
theorem len_app (a b : Str) : (a ++ b).length = a.length + b.length := by
  rw [TL.len_tl, TL.tl_append, List.length_append, ← TL.len_tl, ← TL.len_tl]
def ltN (p q : Nat × Nat) : Prop := p.1 < q.1 ∨ (p.1 = q.1 ∧ p.2 < q.2)
/-! ### repr of a web's text; webs that rise -/
theorem joinL_mem {S : List Nat} {c : Nat} : ∀ {ps : List (List Nat)}, c ∈ TL.joinL S ps → c ∈ S ∨ ∃ p ∈ ps, c ∈ p
  | [], h => by simp [TL.joinL] at h
  | [p], h => .inr ⟨p, List.mem_singleton.mpr rfl, h⟩
  | p :: q :: r, h => by
    rcases List.mem_append.mp (show c ∈ p ++ (S ++ TL.joinL S (q :: r)) from h) with h | h
    · exact .inr ⟨p, List.mem_cons_self, h⟩
    · rcases List.mem_append.mp h with h | h
      · exact .inl h
      · rcases joinL_mem h with h | ⟨t, ht, hc⟩
        · exact .inl h
        · exact .inr ⟨t, List.mem_cons_of_mem _ ht, hc⟩
theorem webS_lt (n : Nat) (ts : Ties) : ∀ c ∈ TL.tl (webS n ts), c < 16 ^ 8 := by
  intro c hc
  have dig : ∀ k, c ∈ TL.numL k → c < 16 ^ 8 := fun k h => by
    have := TL.numL_digits k c h
    omega
  unfold webS at hc
  rw [TL.join_eq, TL.tl_join] at hc
  rcases joinL_mem hc with h | ⟨p, hp, h⟩
  · rw [tl_blank] at h
    cases List.mem_singleton.mp h
    decide
  · obtain ⟨w, hw, rfl⟩ := List.mem_map.mp hp
    rcases List.mem_cons.mp hw with rfl | hw
    · rw [numS_tl] at h
      exact dig n h
    · obtain ⟨q, hq, rfl⟩ := List.mem_map.mp hw
      rw [tieS_tl] at h
      rcases List.mem_append.mp h with h | h
      · rcases List.mem_append.mp h with h | h
        · exact dig _ h
        · cases List.mem_singleton.mp h
          decide
      · exact dig _ h
theorem show_text {x : Str} (h : ∀ c ∈ TL.tl x, c < 16 ^ 8) (hl : x.length ≤ 100000) : showOk (.str x) = true := by
  unfold showOk fitN
  have e : sizeLine = 2 ^ 24 := rfl
  have := PySem.StrLaws.reprText_len x h
  rw [PyData.shown_str]
  have s1 : (PyData.str x).showable = true := by simp [PyData.showable]
  rw [s1, depth_s, decide_eq_true (show (reprText x).length ≤ sizeLine by omega)]
  rfl
theorem row_rise (n i : Nat) : (rowT n i).Pairwise ltN := by
  unfold rowT
  rw [List.pairwise_map]
  exact List.pairwise_lt_range.imp fun h => .inr ⟨rfl, by omega⟩
theorem rows_rise (n : Nat) : ∀ k, ((List.range k).flatMap (rowT n)).Pairwise ltN
  | 0 => .nil
  | k + 1 => by
    rw [flatMap_succ, List.pairwise_append]
    refine ⟨rows_rise n k, row_rise n k, fun p hp q hq => .inl ?_⟩
    obtain ⟨i, hi, hp⟩ := List.mem_flatMap.mp hp
    have := List.mem_range.mp hi
    rw [(rowT_mem hp).1, (rowT_mem hq).1]
    exact this
theorem Web.rise {n : Nat} {ts : Ties} (h : Web n ts) : ts.Pairwise ltN := (rows_rise n n).sublist h
theorem ord_rise {ps : Ties} (h : ps.Nodup) : ∃ qs : Ties, qs.Perm ps ∧ ord ps = qs.map pairD ∧ qs.Pairwise ltN := by
  refine ⟨_, List.mergeSort_perm _ _, o_mergeSort_pairs ps, ?_⟩
  have h1 : (ps.mergeSort fun p q => decide (p.1 < q.1 ∨ (p.1 = q.1 ∧ p.2 ≤ q.2))).Pairwise fun p q => p.1 < q.1 ∨ (p.1 = q.1 ∧ p.2 ≤ q.2) := by
    have := List.pairwise_mergeSort (le := fun (p q : Nat × Nat) => decide (p.1 < q.1 ∨ (p.1 = q.1 ∧ p.2 ≤ q.2))) (by
      intro a b c h1 h2
      simp only [decide_eq_true_eq] at h1 h2 ⊢
      omega) (by
      intro a b
      simp only [Bool.or_eq_true, decide_eq_true_eq]
      omega) ps
    exact this.imp fun h => by simpa using h
  have h2 : (ps.mergeSort fun p q => decide (p.1 < q.1 ∨ (p.1 = q.1 ∧ p.2 ≤ q.2))).Nodup := (List.mergeSort_perm ..).nodup_iff.mpr h
  refine (h1.and h2).imp fun {a b} z => ?_
  unfold ltN
  by_cases e : a.1 = b.1
  · right
    refine ⟨e, ?_⟩
    have : a.2 ≠ b.2 := fun w => z.2 (Prod.ext e w)
    have := z.1
    omega
  · left
    have := z.1
    omega
theorem nat_any {i k : Nat} (h : i ≤ 1000000) : Nice (.int (i : Int)) k 1 := nice_int (by rw [Int.natAbs_natCast]; exact Nat.lt_of_le_of_lt h (Nat.lt_of_lt_of_le (show (1000000 : Nat) < 2 ^ 20 by decide) (pow_le (by decide))))
theorem nice_webW {m : Nat} {ts : Ties} (hm : m ≤ 1000000) (h : ∀ p ∈ ts, p.1 < p.2 ∧ p.2 < m) : Nice (webD m ts) 3 (3 + 3 * ts.length) :=
  (nice_tuple (niceL_cons (nat_any (k := 2) hm) (niceL_cons (nice_tuple (niceL_map (k := 1) (m := 3) fun p hp => nice_tuple (niceL_cons (nat_any (k := 0) (by have := h p hp; omega)) (niceL_cons (nat_any (k := 0) (by have := h p hp; omega)) niceL_nil)))) niceL_nil))).mono (Nat.le_refl _) (by omega)
section
variable {T : List FDef} {M m : Nat}
def webTextD : FDef := ⟨1, 3, [], [.ret (.p (.join " ") [.p .add [.disp false [.p .str [.p .idx [.o 0, .c (.int 0)]]], .comp .seq [.p .idx [.o 0, .c (.int 1)]] (.tp [1, 2]) [] (.p .add [.p .add [.p .str [.o 1], .c (.str "-")], .p .str [.o 2]])]])]⟩
theorem webText_ok {i n : Nat} {ts : Ties} (hT : T[i]? = some webTextD) (hn : n < 10000) (ht : ∀ p ∈ ts, p.1 < p.2 ∧ p.2 < n) (hl : ts.length ≤ 5000) : Ok (callF T M (m + 1) i [webD n ts]) fun p => p = (.str (webS n ts), []) := by
  refine call_ok hT rfl ?_
  unfold webTextD
  simp only [mirS, List.all_cons, List.all_nil, Bool.and_true, Bool.true_and, decide_true, List.length_cons, List.length_nil, decide_eq_true_eq, Nat.zero_le, Nat.reduceLeDiff, Int.reduceLE, Int.reduceLT, Int.reducePow, Int.reduceNeg, Int.reduceToNat, ↓reduceIte, Bool.false_eq_true, Option.toList_some, Option.toList_none, List.append_nil, List.length_map, List.map_cons, List.map_nil, List.cons_append, List.nil_append, Nat.reduceSub, List.replicate, web_0, web_1, o_str (show n < 1000000 by omega)]
  refine comp_map (J := fun ε => ∃ y z, ε = [some (webD n ts), y, z]) pairD (fun p => .str (tieS p)) ⟨none, none, rfl⟩ ?_ ?_
  · rintro p ε hp ⟨y, z, rfl⟩
    have hp' := ht p hp
    have l1 := (numS_le (show p.1 < 10000 by omega)).2
    have l2 := (numS_le (show p.2 < 10000 by omega)).2
    have ld : ("-" : Str).length = 1 := by decide +kernel
    unfold pairD
    simp only [mirS, List.all_cons, List.all_nil, Bool.and_true, Bool.true_and, decide_true, List.length_cons, List.length_nil, decide_eq_true_eq, Nat.zero_le, Nat.reduceLeDiff, Int.reduceLE, Int.reduceLT, Int.reducePow, Int.reduceNeg, Int.reduceToNat, ↓reduceIte, Bool.false_eq_true, Option.toList_some, Option.toList_none, List.append_nil, List.length_map, o_str (show p.1 < 1000000 by omega), o_str (show p.2 < 1000000 by omega), o_adds (a := numS p.1) (b := "-") (by omega), o_adds (a := numS p.1 ++ "-") (b := numS p.2) (by rw [len_app]; omega)]
    exact ⟨rfl, _, _, rfl⟩
  · rintro ε ⟨y, z, rfl⟩
    have e1 : PyData.str (numS n) :: ts.map (fun p => PyData.str (tieS p)) = (wordsS n ts).map PyData.str := by
      unfold wordsS
      rw [List.map_cons, List.map_map]
      rfl
    have hj := words_len hn ht
    simp only [mirS, List.all_cons, List.all_nil, Bool.and_true, Bool.true_and, decide_true, List.length_cons, List.length_nil, decide_eq_true_eq, Nat.zero_le, Nat.reduceLeDiff, Int.reduceLE, Int.reduceLT, Int.reducePow, Int.reduceNeg, Int.reduceToNat, ↓reduceIte, Bool.false_eq_true, Option.toList_some, Option.toList_none, List.append_nil, List.length_map, List.map_cons, List.map_nil, List.cons_append, List.nil_append, Nat.reduceSub, List.replicate, List.length_map, g_fitW (show ts.length ≤ 100000 by omega), pAdd_w (xs := [PyData.str (numS n)]) (ys := ts.map fun p => PyData.str (tieS p)) (by rw [List.length_map, List.length_singleton]; omega), e1, o_join (sep := " ") (ys := wordsS n ts) (by omega)]
    rfl
def numberInD : FDef := ⟨1, 2, [], [.ite (.or (.not (.chain .le .le (.c (.int 1)) (.p .len [.o 0]) (.c (.int 4)))) (.not (.p .all [.comp .txt [.v 0] (.nm 1) [] (.p .isin [.o 1, .c (.str "0123456789")])]))) [.ret (.c .none)] [],
.ret (.ifx (.and (.p .eq [.p .idx [.o 0, .c (.int 0)], .c (.str "0")]) (.p .gt [.p .len [.o 0], .c (.int 1)])) (.c .none) (.p .int [.o 0]))]⟩
theorem isin_fig {c : Nat} (h : 48 ≤ c ∧ c ≤ 57) : prim .isin [.str ⟨#[c]⟩, .str "0123456789"] = .ok (.bool true) := by
  obtain ⟨k, hk, rfl⟩ : ∃ k, k < 10 ∧ c = 48 + k := ⟨c - 48, by omega, by omega⟩
  have : ∀ k, k < 10 → (!(Builtin.Str.occurrences ("0123456789" : Str) ⟨#[48 + k]⟩ 0 ("0123456789" : Str).length 1).isEmpty) = true := by decide +kernel
  show Res.bind (Res.ok _) _ = _
  show (Res.ok (!(Builtin.Str.occurrences ("0123456789" : Str) ⟨#[48 + k]⟩ 0 ("0123456789" : Str).length 1).isEmpty) >>= fun r => Res.ok (PyData.bool r)) = _
  rw [this k hk]
  rfl
theorem o_len_s {x : Str} (h : x.length ≤ 100000) : prim .len [.str x] = .ok (.int x.length) := by
  show (Res.guard (fitN x.length) >>= fun _ => Res.ok (PyData.int x.length)) = _
  rw [g_fitW h]
  rfl
theorem o_eq_strD {a b : Str} : prim .eq [.str a, .str b] = .ok (.bool (decide (a = b))) := by
  show ((Res.guard (dOk (.str a) (.str b)) >>= fun _ => Res.ok (PyData.eqv (.str a) (.str b))) >>= fun r => Res.ok (PyData.bool r)) = _
  rw [guard_of (by unfold dOk; simp [PyData.depth])]
  have : PyData.eqv (.str a) (.str b) = decide (a = b) := by
    simp [PyData.eqv]
    by_cases h : a = b
    · subst h
      simp
    · rw [decide_eq_false h]
      exact beq_eq_false_iff_ne.mpr h
  rw [bind_ok, bind_ok, this]
theorem numberIn_ok {i k : Nat} (hT : T[i]? = some numberInD) (hk : k < 10000) : Ok (callF T M (m + 1) i [.str (numS k)]) fun p => p = (.int (k : Int), []) := by
  refine call_ok hT rfl ?_
  unfold numberInD
  obtain ⟨l1, l2⟩ := numS_le hk
  have ll : prim .len [.str (numS k)] = .ok (.int ((numS k).length : Int)) := o_len_s (by omega)
  have h1 : (1 : Int) ≤ ((numS k).length : Int) := by omega
  have h4 : ((numS k).length : Int) ≤ 4 := by omega
  have it : iterF .txt [.str (numS k)] = .ok ((TL.numL k).map fun c => .str ⟨#[c]⟩) := by
    show Res.ok ((numS k).cps.toList.map fun c => PyData.str ⟨#[c]⟩) = _
    have : (numS k).cps.toList = TL.numL k := numS_tl k
    rw [this]
  simp only [mirS, List.all_cons, List.all_nil, Bool.and_true, Bool.true_and, decide_true, List.length_cons, List.length_nil, decide_eq_true_eq, Nat.zero_le, Nat.reduceLeDiff, Int.reduceLE, Int.reduceLT, Int.reducePow, Int.reduceNeg, Int.reduceToNat, ↓reduceIte, Bool.false_eq_true, Option.toList_some, Option.toList_none, List.append_nil, List.length_map, List.map_cons, List.map_nil, List.cons_append, List.nil_append, Nat.reduceSub, List.replicate, ll, h1, h4, decide_true, Bool.not_true, it]
  refine comp_map (J := fun ε => ∃ y, ε = [some (.str (numS k)), y]) (fun c => .str ⟨#[c]⟩) (fun _ => .bool true) ⟨none, rfl⟩ ?_ ?_
  · rintro c ε hc ⟨y, rfl⟩
    have := TL.numL_digits k c hc
    simp only [mirS, List.all_cons, List.all_nil, Bool.and_true, Bool.true_and, decide_true, List.length_cons, List.length_nil, decide_eq_true_eq, Nat.zero_le, Nat.reduceLeDiff, Int.reduceLE, Int.reduceLT, Int.reducePow, Int.reduceNeg, Int.reduceToNat, ↓reduceIte, Bool.false_eq_true, Option.toList_some, Option.toList_none, List.append_nil, List.length_map, isin_fig this]
    exact ⟨trivial, _, rfl⟩
  · rintro ε ⟨y, rfl⟩
    have e1 : ((TL.numL k).map fun _ => PyData.bool true) = (List.replicate (TL.numL k).length true).map PyData.bool := by
      rw [List.map_replicate, List.map_const']
    have e2 : (List.replicate (TL.numL k).length true).all id = true := by simp
    have hl : (TL.numL k).length ≤ 1000 := by rw [← numS_len]; omega
    have hi : prim .int [.str (numS k)] = .ok (.int (k : Int)) := by
      show (Res.guard (decide ((numS k).length ≤ 640)) >>= fun _ => Res.ofO (PySem.intText? (numS k)) >>= fun n => Res.ok (PyData.int n)) = _
      have := TL.int_num (n := k) (by omega)
      rw [guard_of (decide_eq_true (by omega)), bind_ok]
      show (Res.ofO (PySem.intText? (Str.ofString (toString ((k : Nat) : Int)))) >>= fun n => Res.ok (PyData.int n)) = _
      rw [this]
      rfl
    simp only [mirS, List.all_cons, List.all_nil, Bool.and_true, Bool.true_and, decide_true, List.length_cons, List.length_nil, decide_eq_true_eq, Nat.zero_le, Nat.reduceLeDiff, Int.reduceLE, Int.reduceLT, Int.reducePow, Int.reduceNeg, Int.reduceToNat, ↓reduceIte, Bool.false_eq_true, Option.toList_some, Option.toList_none, List.append_nil, List.length_map, List.length_map, e1, List.length_replicate, g_fit hl, o_all, e2, Bool.not_true]
    have hx : ∃ c r, TL.numL k = c :: r := by
      cases h : TL.numL k with
      | nil => exact absurd h (TL.numL_ne k)
      | cons c r => exact ⟨c, r, rfl⟩
    obtain ⟨c, r, hc⟩ := hx
    have cps : (numS k).cps.toList = c :: r := (numS_tl k).trans hc
    have i0 : prim .idx [.str (numS k), .int 0] = .ok (.str ⟨#[c]⟩) := by
      show (Res.guard (fitN (numS k).length) >>= fun _ => Res.ofO ((ixOf (numS k).cps.toList.length 0).bind fun j => (numS k).cps.toList[j]?) >>= fun c => Res.ok (PyData.str ⟨#[c]⟩)) = _
      rw [g_fitW (by omega), bind_ok, cps, List.length_cons, ix_0]
      rfl
    simp only [mirS, List.all_cons, List.all_nil, Bool.and_true, Bool.true_and, decide_true, List.length_cons, List.length_nil, decide_eq_true_eq, Nat.zero_le, Nat.reduceLeDiff, Int.reduceLE, Int.reduceLT, Int.reducePow, Int.reduceNeg, Int.reduceToNat, ↓reduceIte, Bool.false_eq_true, Option.toList_some, Option.toList_none, List.append_nil, List.length_map, i0, o_eq_strD]
    by_cases hc0 : (⟨#[c]⟩ : Str) = "0"
    · have c48 : c = 48 := by
        have e := congrArg TL.tl hc0
        have e0 : TL.tl ("0" : Str) = [48] := by decide +kernel
        rw [e0] at e
        have : TL.tl (⟨#[c]⟩ : Str) = [c] := rfl
        rw [this] at e
        exact (List.cons.inj e).1
      have k0 : k = 0 := by
        rcases Nat.eq_zero_or_pos k with z | z
        · exact z
        · obtain ⟨c', r', e', hc'⟩ := numL_head k z
          rw [hc] at e'
          exact absurd ((List.cons.inj e').1.symm.trans c48) hc'
      have l1' : (numS k).length = 1 := by
        rw [numS_len, k0, TL.numL_lt (by decide)]
        rfl
      simp only [mirS, List.all_cons, List.all_nil, Bool.and_true, Bool.true_and, decide_true, List.length_cons, List.length_nil, decide_eq_true_eq, Nat.zero_le, Nat.reduceLeDiff, Int.reduceLE, Int.reduceLT, Int.reducePow, Int.reduceNeg, Int.reduceToNat, ↓reduceIte, Bool.false_eq_true, Option.toList_some, Option.toList_none, List.append_nil, List.length_map, hc0, decide_true, ll, l1', Int.natCast_one, Int.lt_irrefl, decide_false, hi]
    · simp only [mirS, List.all_cons, List.all_nil, Bool.and_true, Bool.true_and, decide_true, List.length_cons, List.length_nil, decide_eq_true_eq, Nat.zero_le, Nat.reduceLeDiff, Int.reduceLE, Int.reduceLT, Int.reducePow, Int.reduceNeg, Int.reduceToNat, ↓reduceIte, Bool.false_eq_true, Option.toList_some, Option.toList_none, List.append_nil, List.length_map, hc0, decide_false, hi]
def tieInD (nu : Nat) : FDef := ⟨3, 6, [], [.set (.nm 3) (.comp .seq [.p (.split "-") [.o 0]] (.nm 4) [] (.call nu [.v 4] [])),
.ite (.or (.p .ne [.p .len [.o 3], .c (.int 2)]) (.or (.p .isin [.c .none, .o 3]) (.not (.chain .lt .lt (.p .idx [.o 3, .c (.int 0)]) (.p .idx [.o 3, .c (.int 1)]) (.v 1))))) [.ret (.c .none)] [],
.set (.nm 5) (.disp true [.p .idx [.o 3, .c (.int 0)], .p .idx [.o 3, .c (.int 1)]]),
.ret (.ifx (.or (.p .isN [.o 2]) (.p .lt [.o 2, .o 5])) (.v 5) (.c .none))]⟩
def lastD : Option (Nat × Nat) → D
  | none => .none
  | some p => pairD p
theorem o_lt_pair {p q : Nat × Nat} (h : ltN p q) : prim .lt [pairD p, pairD q] = .ok (.bool true) := by
  show ((Res.guard (PySem.W.alike (pairD p) (pairD q) && !isNn (pairD p) && dOk (pairD p) (pairD q)) >>= fun _ => Res.ok (PySem.W.dataLt (pairD p) (pairD q))) >>= fun r => Res.ok (PyData.bool r)) = _
  have a : PySem.W.alike (pairD p) (pairD q) = true := by simp [pairD, PySem.W.alike, PySem.W.alikeAll]
  have b : dOk (pairD p) (pairD q) = true := by
    unfold dOk pairD
    simp [PyData.depth, PyData.depthAll]
  rw [guard_of (by rw [a, b]; rfl), bind_ok, bind_ok]
  unfold pairD
  rw [PySem.W.dataLt_ii, decide_eq_true (by unfold ltN at h; omega)]
theorem none_isin {a b : Int} : prim .isin [.none, .list [.int a, .int b]] = .ok (.bool false) := by
  show ((Res.guard (inOk [.int a, .int b] .none) >>= fun _ => Res.ok (([.int a, .int b] : List D).any fun y => PyData.eqv y .none)) >>= fun r => Res.ok (PyData.bool r)) = _
  rw [guard_of (by unfold inOk; simp [PyData.depth])]
  simp [bind_ok, PyData.eqv]
theorem tieIn_ok {i nu n : Nat} {p : Nat × Nat} {last : Option (Nat × Nat)} (hT : T[i]? = some (tieInD nu)) (hnu : T[nu]? = some numberInD) (hn : n < 10000) (h1 : p.1 < p.2) (h2 : p.2 < n) (hl : ∀ q, last = some q → ltN q p) : Ok (callF T M (m + 2) i [.str (tieS p), .int (n : Int), lastD last]) fun r => r = (pairD p, []) := by
  refine call_ok hT rfl ?_
  unfold tieInD
  have sp : prim (.split "-") [.str (tieS p)] = .ok (.list [.str (numS p.1), .str (numS p.2)]) := by
    rw [o_split (by decide +kernel) (by have := tieS_le (p := p) (by omega) (by omega); omega), split_tie]
    rfl
  simp only [mirS, List.all_cons, List.all_nil, Bool.and_true, Bool.true_and, decide_true, List.length_cons, List.length_nil, decide_eq_true_eq, Nat.zero_le, Nat.reduceLeDiff, Int.reduceLE, Int.reduceLT, Int.reducePow, Int.reduceNeg, Int.reduceToNat, ↓reduceIte, Bool.false_eq_true, Option.toList_some, Option.toList_none, List.append_nil, List.length_map, List.map_cons, List.map_nil, List.cons_append, List.nil_append, Nat.reduceSub, List.replicate, sp]
  refine comp_map (xs := [p.1, p.2]) (J := fun ε => ∃ y, ε = [some (.str (tieS p)), some (.int (n : Int)), some (lastD last), none, y, none]) (fun k => .str (numS k)) (fun k => .int (k : Int)) ⟨none, rfl⟩ ?_ ?_
  · rintro k ε hk ⟨y, rfl⟩
    have hk' : k < 10000 := by
      simp only [List.mem_cons, List.not_mem_nil, or_false] at hk
      rcases hk with rfl | rfl <;> omega
    simp only [mirS, List.all_cons, List.all_nil, Bool.and_true, Bool.true_and, decide_true, List.length_cons, List.length_nil, decide_eq_true_eq, Nat.zero_le, Nat.reduceLeDiff, Int.reduceLE, Int.reduceLT, Int.reducePow, Int.reduceNeg, Int.reduceToNat, ↓reduceIte, Bool.false_eq_true, Option.toList_some, Option.toList_none, List.append_nil, List.length_map]
    refine (numberIn_ok hnu hk').mono ?_
    rintro _ rfl
    simp only [mirS, List.all_cons, List.all_nil, Bool.and_true, Bool.true_and, decide_true, List.length_cons, List.length_nil, decide_eq_true_eq, Nat.zero_le, Nat.reduceLeDiff, Int.reduceLE, Int.reduceLT, Int.reducePow, Int.reduceNeg, Int.reduceToNat, ↓reduceIte, Bool.false_eq_true, Option.toList_some, Option.toList_none, List.append_nil, List.length_map]
    exact ⟨trivial, _, rfl⟩
  · rintro ε ⟨y, rfl⟩
    have c1 : (p.1 : Int) < (p.2 : Int) := by omega
    have c2 : (p.2 : Int) < (n : Int) := by omega
    simp only [mirS, List.all_cons, List.all_nil, Bool.and_true, Bool.true_and, decide_true, List.length_cons, List.length_nil, decide_eq_true_eq, Nat.zero_le, Nat.reduceLeDiff, Int.reduceLE, Int.reduceLT, Int.reducePow, Int.reduceNeg, Int.reduceToNat, ↓reduceIte, Bool.false_eq_true, Option.toList_some, Option.toList_none, List.append_nil, List.length_map, List.map_cons, List.map_nil, List.cons_append, List.nil_append, Nat.reduceSub, List.replicate, g_fit (show 2 ≤ 1000 by decide), Nat.zero_add, Nat.reduceAdd, Int.cast_ofNat_Int, Bool.not_true, none_isin, c1, c2]
    have ep : PyData.tuple [.int (p.1 : Int), .int (p.2 : Int)] = pairD p := rfl
    rw [ep]
    cases last with
    | none =>
      have e : prim .isN [lastD none] = .ok (.bool true) := rfl
      simp only [mirS, List.all_cons, List.all_nil, Bool.and_true, Bool.true_and, decide_true, List.length_cons, List.length_nil, decide_eq_true_eq, Nat.zero_le, Nat.reduceLeDiff, Int.reduceLE, Int.reduceLT, Int.reducePow, Int.reduceNeg, Int.reduceToNat, ↓reduceIte, Bool.false_eq_true, Option.toList_some, Option.toList_none, List.append_nil, List.length_map, e]
    | some q =>
      have e : prim .isN [lastD (some q)] = .ok (.bool false) := rfl
      have e2 : prim .lt [lastD (some q), pairD p] = .ok (.bool true) := o_lt_pair (hl q rfl)
      simp only [mirS, List.all_cons, List.all_nil, Bool.and_true, Bool.true_and, decide_true, List.length_cons, List.length_nil, decide_eq_true_eq, Nat.zero_le, Nat.reduceLeDiff, Int.reduceLE, Int.reduceLT, Int.reducePow, Int.reduceNeg, Int.reduceToNat, ↓reduceIte, Bool.false_eq_true, Option.toList_some, Option.toList_none, List.append_nil, List.length_map, e, e2]
def readWebD (nu ti : Nat) : FDef := ⟨1, 6, [], [.set (.nm 1) (.p (.split " ") [.o 0]),
.set (.nm 2) (.call nu [.p .idx [.o 1, .c (.int 0)]] []),
.ite (.p .isN [.o 2]) [.never] [],
.set (.nm 3) (.disp false []),
.for_ .rng [.c (.int 1), .p .len [.o 1]] (.nm 4) [.set (.nm 5) (.call ti [.p .idx [.o 1, .o 4], .v 2, .ifx (.p .ne [.o 3, .disp false []]) (.p .idx [.o 3, .p .neg [.c (.int 1)]]) (.c .none)] []),
.ite (.p .isN [.o 5]) [.never] [],
.app 3 (.v 5)],
.ret (.disp true [.v 2, .p .tuple [.o 3]])]⟩
theorem readWeb_ok {i nu ti n : Nat} {ts : Ties} (hT : T[i]? = some (readWebD nu ti)) (hnu : T[nu]? = some numberInD) (hti : T[ti]? = some (tieInD nu)) (hn : n < 10000) (ht : ∀ p ∈ ts, p.1 < p.2 ∧ p.2 < n) (hr : ts.Pairwise ltN) (hl : ts.length ≤ 5000) : Ok (callF T M (m + 3) i [.str (webS n ts)]) fun p => p = (webD n ts, []) := by
  refine call_ok hT rfl ?_
  unfold readWebD
  have sp : prim (.split " ") [.str (webS n ts)] = .ok (.list ((wordsS n ts).map PyData.str)) := by
    have := webS_len hn ht
    rw [o_split (by decide +kernel) (by omega), split_web]
  have i0 : prim .idx [.list ((wordsS n ts).map PyData.str), .int 0] = .ok (.str (numS n)) := o_idx_0
  have hln : (wordsS n ts).length = ts.length + 1 := by
    unfold wordsS
    rw [List.length_cons, List.length_map]
  have er : (((ts.length + 1 : Nat) : Int) - 1).toNat = ts.length := by omega
  simp only [mirS, List.all_cons, List.all_nil, Bool.and_true, Bool.true_and, decide_true, List.length_cons, List.length_nil, decide_eq_true_eq, Nat.zero_le, Nat.reduceLeDiff, Int.reduceLE, Int.reduceLT, Int.reducePow, Int.reduceNeg, Int.reduceToNat, ↓reduceIte, Bool.false_eq_true, Option.toList_some, Option.toList_none, List.append_nil, List.length_map, List.map_cons, List.map_nil, List.cons_append, List.nil_append, Nat.reduceSub, List.replicate, sp, i0]
  refine (numberIn_ok hnu hn).mono ?_
  rintro _ rfl
  have eN : ∀ k : Int, prim .isN [.int k] = .ok (.bool false) := fun _ => rfl
  simp only [mirS, List.all_cons, List.all_nil, Bool.and_true, Bool.true_and, decide_true, List.length_cons, List.length_nil, decide_eq_true_eq, Nat.zero_le, Nat.reduceLeDiff, Int.reduceLE, Int.reduceLT, Int.reducePow, Int.reduceNeg, Int.reduceToNat, ↓reduceIte, Bool.false_eq_true, Option.toList_some, Option.toList_none, List.append_nil, List.length_map, List.map_cons, List.map_nil, List.cons_append, List.nil_append, Nat.reduceSub, List.replicate, eN, hln, it_rng2 (a := 1) (b := ((ts.length + 1 : Nat) : Int)) (rngOk_s (by omega) (by omega)) (rngOk_s (by omega) (by omega)), er]
  refine for_rng (fun j ε => ∃ (y4 y5 : Option D), ε = [some (.str (webS n ts)), some (.list ((wordsS n ts).map PyData.str)), some (.int (n : Int)), some (.list ((ts.take j).map pairD)), y4, y5]) ⟨_, _, rfl⟩ ?_ ?_
  · rintro j ε hj ⟨y4, y5, rfl⟩
    have hp := ht ts[j] (List.getElem_mem hj)
    have ij : prim .idx [.list ((wordsS n ts).map PyData.str), .int ((1 : Int) + (j : Int))] = .ok (.str (tieS ts[j])) := o_idx_l (by omega) (by
      have e : ((1 : Int) + (j : Int)).toNat = j + 1 := by omega
      rw [e, List.getElem?_map]
      show Option.map PyData.str ((ts.map tieS)[j]?) = _
      rw [List.getElem?_map, List.getElem?_eq_getElem hj]
      rfl)
    have tk : ts.take (j + 1) = ts.take j ++ [ts[j]] := by
      rw [List.take_succ, List.getElem?_eq_getElem hj]
      rfl
    have fl : ((ts.take j).map pairD).length < sizeLine := by
      have e : sizeLine = 2 ^ 24 := rfl
      rw [List.length_map, List.length_take]
      omega
    have go : ∀ last : Option (Nat × Nat), (∀ q, last = some q → ltN q ts[j]) → Ok (callF T M (m + 2) ti [.str (tieS ts[j]), .int (n : Int), lastD last]) fun r => r = (pairD ts[j], []) := fun last h => tieIn_ok hti hnu hn hp.1 hp.2 h
    have gl : Res.guard (decide (((ts.take j).map pairD).length < sizeLine)) = .ok () := guard_of (decide_eq_true fl)
    have eP : prim .isN [pairD ts[j]] = .ok (.bool false) := rfl
    rw [List.length_map] at gl
    simp only [mirS, List.all_cons, List.all_nil, Bool.and_true, Bool.true_and, decide_true, List.length_cons, List.length_nil, decide_eq_true_eq, Nat.zero_le, Nat.reduceLeDiff, Int.reduceLE, Int.reduceLT, Int.reducePow, Int.reduceNeg, Int.reduceToNat, ↓reduceIte, Bool.false_eq_true, Option.toList_some, Option.toList_none, List.append_nil, List.length_map, ij]
    rcases Nat.eq_zero_or_pos j with rfl | hpos
    · have e1 : (List.take 0 ts).map pairD = [] := rfl
      have g0 := go none fun q hq => nomatch hq
      simp only [mirS, List.all_cons, List.all_nil, Bool.and_true, Bool.true_and, decide_true, List.length_cons, List.length_nil, decide_eq_true_eq, Nat.zero_le, Nat.reduceLeDiff, Int.reduceLE, Int.reduceLT, Int.reducePow, Int.reduceNeg, Int.reduceToNat, ↓reduceIte, Bool.false_eq_true, Option.toList_some, Option.toList_none, List.append_nil, List.length_map, e1, List.isEmpty_nil, Bool.not_true]
      refine g0.mono ?_
      rintro _ rfl
      simp only [mirS, List.all_cons, List.all_nil, Bool.and_true, Bool.true_and, decide_true, List.length_cons, List.length_nil, decide_eq_true_eq, Nat.zero_le, Nat.reduceLeDiff, Int.reduceLE, Int.reduceLT, Int.reducePow, Int.reduceNeg, Int.reduceToNat, ↓reduceIte, Bool.false_eq_true, Option.toList_some, Option.toList_none, List.append_nil, List.length_map, eP, List.map_cons, List.map_nil, List.cons_append, List.nil_append, Nat.reduceSub, List.replicate, g_app (show 0 ≤ 1000 by decide)]
      refine ⟨some (.int ((1 : Int) + ((0 : Nat) : Int))), some (pairD ts[0]), ?_⟩
      rw [tk]
      rfl
    · have hne : ((ts.take j).map pairD).isEmpty = false := by
        cases h : (ts.take j).map pairD with
        | nil =>
          have := congrArg List.length h
          rw [List.length_map, List.length_take, List.length_nil] at this
          omega
        | cons x l => rfl
      have hlast : prim .idx [.list ((ts.take j).map pairD), .int (-1)] = .ok (pairD ts[j - 1]) := o_idx_last (by
        rw [List.length_map, List.length_take, List.getElem?_map, List.getElem?_take, if_pos (by omega)]
        have e : min j ts.length - 1 = j - 1 := by omega
        rw [e, List.getElem?_eq_getElem (by omega)]
        rfl)
      have g0 := go (some ts[j - 1]) fun q hq => by
        cases hq
        exact List.pairwise_iff_getElem.mp hr (j - 1) j (by omega) hj (by omega)
      simp only [mirS, List.all_cons, List.all_nil, Bool.and_true, Bool.true_and, decide_true, List.length_cons, List.length_nil, decide_eq_true_eq, Nat.zero_le, Nat.reduceLeDiff, Int.reduceLE, Int.reduceLT, Int.reducePow, Int.reduceNeg, Int.reduceToNat, ↓reduceIte, Bool.false_eq_true, Option.toList_some, Option.toList_none, List.append_nil, List.length_map, hne, Bool.not_false, hlast]
      refine g0.mono ?_
      rintro _ rfl
      simp only [mirS, List.all_cons, List.all_nil, Bool.and_true, Bool.true_and, decide_true, List.length_cons, List.length_nil, decide_eq_true_eq, Nat.zero_le, Nat.reduceLeDiff, Int.reduceLE, Int.reduceLT, Int.reducePow, Int.reduceNeg, Int.reduceToNat, ↓reduceIte, Bool.false_eq_true, Option.toList_some, Option.toList_none, List.append_nil, List.length_map, eP, gl]
      refine ⟨some (.int ((1 : Int) + (j : Int))), some (pairD ts[j]), ?_⟩
      rw [tk, List.map_append]
      rfl
  · rintro ε ⟨y4, y5, rfl⟩
    rw [List.take_length]
    simp only [mirS, List.all_cons, List.all_nil, Bool.and_true, Bool.true_and, decide_true, List.length_cons, List.length_nil, decide_eq_true_eq, Nat.zero_le, Nat.reduceLeDiff, Int.reduceLE, Int.reduceLT, Int.reducePow, Int.reduceNeg, Int.reduceToNat, ↓reduceIte, Bool.false_eq_true, Option.toList_some, Option.toList_none, List.append_nil, List.length_map, List.map_cons, List.map_nil, List.cons_append, List.nil_append, Nat.reduceSub, List.replicate]
    rfl
end
end Mir.P
/-! Mir, part Y: the draws of the laws k01 to k18, things bent at a place. -/
namespace Mir.P
open PySem
set_option maxHeartbeats 2000000
def feedD3 : FDef := ⟨1, 1, [], [.ret (.disp false [.p .list [.cut [.o 0] [] [.c (.int 63)]], .c (.int 0), .c (.int 0)])]⟩
theorem feed3_ok {T : List FDef} {M n i : Nat} (hT : T[i]? = some feedD3) {ns : List Int} (h : ns.length ≤ 63) : Ok (callF T M (n + 1) i [.list (ns.map PyData.int)]) fun p => p = (tp ns 0 0, []) := by
  refine call_ok hT rfl ?_
  unfold feedD3 tp
  have e : (ns.map PyData.int).take 63 = ns.map PyData.int := List.take_of_length_le (by rw [List.length_map]; exact h)
  simp only [mirS, List.all_cons, List.all_nil, Bool.and_true, Bool.true_and, decide_true, List.length_cons, List.length_nil, decide_eq_true_eq, Nat.zero_le, Nat.reduceLeDiff, Int.reduceLE, Int.reduceLT, Int.reducePow, Int.reduceNeg, Int.reduceToNat, ↓reduceIte, Bool.false_eq_true, Option.toList_some, Option.toList_none, List.append_nil, List.length_map, List.map_cons, List.map_nil, List.cons_append, List.nil_append, Nat.reduceSub, List.replicate, cut_hi (xs := ns.map PyData.int) (j := 63) (by decide), e]
def drawD3 : FDef := ⟨2, 6, [0], [.ite (.p .gt [.p .idx [.o 0, .c (.int 2)], .c (.int 0)]) [.set (.nm 2) (.p .mod [.p .idx [.o 0, .c (.int 2)], .o 1]),
.sub 0 (.c (.int 2)) (.p .fdiv [.p .idx [.o 0, .c (.int 2)], .o 1]),
.ret (.mv 2)] [],
.set (.nm 3) (.p .idx [.o 0, .c (.int 1)]),
.sub 0 (.c (.int 1)) (.p .add [.o 3, .c (.int 1)]),
.set (.nm 4) (.p .mul [.c (.int 7919), .o 3]),
.ite (.p .ne [.p .idx [.o 0, .c (.int 0)], .disp false []]) [.set (.nm 4) (.p .idx [.p .idx [.o 0, .c (.int 0)], .p .mod [.o 3, .p .len [.p .idx [.o 0, .c (.int 0)]]]])] [],
.ite (.and (.p .ge [.o 4, .p .pow [.c (.int 10), .c (.int 18)]]) (.p .lt [.o 3, .p .len [.p .idx [.o 0, .c (.int 0)]]])) [.sub 0 (.c (.int 2)) (.p .fdiv [.o 4, .o 1]),
.ret (.p .mod [.o 4, .o 1])] [],
.set (.nm 5) (.p .mod [.p .add [.p .add [.p .mod [.o 4, .c (.int 2147483647)], .p .mul [.c (.int 40692), .o 3]], .c (.int 12345)], .c (.int 2147483647)]),
.set (.nm 5) (.p .mod [.p .mul [.o 5, .p .add [.o 5, .c (.int 48271)]], .c (.int 2147483587)]),
.ret (.p .mod [.p .fdiv [.p .mod [.p .add [.p .mul [.o 5, .c (.int 69621)], .o 3], .c (.int 2147483399)], .c (.int 7)], .o 1])]⟩
theorem draw3_ok {T : List FDef} {M n i : Nat} (hT : T[i]? = some drawD3) {ns : List Int} {spot left many : Int} (h0 : 0 ≤ spot) (h1 : spot < 2 ^ 40) (hm : 0 < many) (hd : many < 2 ^ 8999) :
    Ok (callF T M (n + 1) i [tp ns spot left, .int many]) fun p => ∃ v s l, p = (.int v, [tp ns s l]) ∧ 0 ≤ v ∧ v < many ∧ spot ≤ s ∧ s ≤ spot + 1 := by
  have hdv := divOk_s hm hd
  have m1 : -9223372036854775808 ≤ spot := by omega
  have m2 : spot < 9223372036854775808 := by omega
  have m3 : ∀ X : Int, -9223372036854775808 ≤ X % 2147483647 := fun X => by omega
  have m4 : ∀ X : Int, X % 2147483647 < 9223372036854775808 := fun X => by omega
  have v0 : ∀ X : Int, 0 ≤ X % many := fun X => Int.emod_nonneg _ (by omega)
  have v1 : ∀ X : Int, X % many < many := fun X => Int.emod_lt_of_pos _ hm
  refine call_ok hT rfl ?_
  unfold drawD3 tp
  simp only [mirS, List.all_cons, List.all_nil, Bool.and_true, Bool.true_and, decide_true, List.length_cons, List.length_nil, decide_eq_true_eq, Nat.zero_le, Nat.reduceLeDiff, Int.reduceLE, Int.reduceLT, Int.reducePow, Int.reduceNeg, Int.reduceToNat, ↓reduceIte, Bool.false_eq_true, Option.toList_some, Option.toList_none, List.append_nil, List.length_map, List.map_cons, List.map_nil, List.cons_append, List.nil_append, Nat.reduceSub, List.replicate]
  refine ok_cases (fun h => ?_) fun h => ?_
  · simp only [mirS, List.all_cons, List.all_nil, Bool.and_true, Bool.true_and, decide_true, List.length_cons, List.length_nil, decide_eq_true_eq, Nat.zero_le, Nat.reduceLeDiff, Int.reduceLE, Int.reduceLT, Int.reducePow, Int.reduceNeg, Int.reduceToNat, ↓reduceIte, Bool.false_eq_true, Option.toList_some, Option.toList_none, List.append_nil, List.length_map, o_mod hm, o_fdiv hm hdv]
    exact ⟨_, _, _, rfl, v0 _, v1 _, by omega, by omega⟩
  · simp only [mirS, List.all_cons, List.all_nil, Bool.and_true, Bool.true_and, decide_true, List.length_cons, List.length_nil, decide_eq_true_eq, Nat.zero_le, Nat.reduceLeDiff, Int.reduceLE, Int.reduceLT, Int.reducePow, Int.reduceNeg, Int.reduceToNat, ↓reduceIte, Bool.false_eq_true, Option.toList_some, Option.toList_none, List.append_nil, List.length_map, m1, m2]
    refine ok_cases (fun h2 => ?_) fun h2 => ?_
    · have hl : 0 < ns.length := by
        cases ns with
        | nil => cases h2
        | cons x xs => exact Nat.succ_pos _
      have hl2 : (0 : Int) < (ns.length : Int) := by omega
      have i0 : 0 ≤ spot % (ns.length : Int) := Int.emod_nonneg _ (by omega)
      have i1 : spot % (ns.length : Int) < ns.length := Int.emod_lt_of_pos _ hl2
      have i2 : (spot % (ns.length : Int)).toNat < ns.length := by
        omega
      have i3 : (ns.map PyData.int)[(spot % (ns.length : Int)).toNat]? = some (.int (ns[(spot % (ns.length : Int)).toNat]'i2)) := by
        rw [List.getElem?_map, List.getElem?_eq_getElem i2]
        rfl
      simp only [mirS, List.all_cons, List.all_nil, Bool.and_true, Bool.true_and, decide_true, List.length_cons, List.length_nil, decide_eq_true_eq, Nat.zero_le, Nat.reduceLeDiff, Int.reduceLE, Int.reduceLT, Int.reducePow, Int.reduceNeg, Int.reduceToNat, ↓reduceIte, Bool.false_eq_true, Option.toList_some, Option.toList_none, List.append_nil, List.length_map, o_mod hl2, o_idx_l i0 i3]
      generalize ns[(spot % (ns.length : Int)).toNat]'i2 = z
      refine ok_cases (fun h3 => ?_) fun h3 => ?_
      · simp only [mirS, List.all_cons, List.all_nil, Bool.and_true, Bool.true_and, decide_true, List.length_cons, List.length_nil, decide_eq_true_eq, Nat.zero_le, Nat.reduceLeDiff, Int.reduceLE, Int.reduceLT, Int.reducePow, Int.reduceNeg, Int.reduceToNat, ↓reduceIte, Bool.false_eq_true, Option.toList_some, Option.toList_none, List.append_nil, List.length_map]
        refine ok_cases (fun h4 => ?_) fun h4 => ?_
        · simp only [mirS, List.all_cons, List.all_nil, Bool.and_true, Bool.true_and, decide_true, List.length_cons, List.length_nil, decide_eq_true_eq, Nat.zero_le, Nat.reduceLeDiff, Int.reduceLE, Int.reduceLT, Int.reducePow, Int.reduceNeg, Int.reduceToNat, ↓reduceIte, Bool.false_eq_true, Option.toList_some, Option.toList_none, List.append_nil, List.length_map, o_mod hm, o_fdiv hm hdv]
          exact ⟨_, _, _, rfl, v0 _, v1 _, by omega, by omega⟩
        · simp only [mirS, List.all_cons, List.all_nil, Bool.and_true, Bool.true_and, decide_true, List.length_cons, List.length_nil, decide_eq_true_eq, Nat.zero_le, Nat.reduceLeDiff, Int.reduceLE, Int.reduceLT, Int.reducePow, Int.reduceNeg, Int.reduceToNat, ↓reduceIte, Bool.false_eq_true, Option.toList_some, Option.toList_none, List.append_nil, List.length_map, m1, m2, m3, m4, o_mod hm]
          exact ⟨_, _, _, rfl, v0 _, v1 _, by omega, by omega⟩
      · simp only [mirS, List.all_cons, List.all_nil, Bool.and_true, Bool.true_and, decide_true, List.length_cons, List.length_nil, decide_eq_true_eq, Nat.zero_le, Nat.reduceLeDiff, Int.reduceLE, Int.reduceLT, Int.reducePow, Int.reduceNeg, Int.reduceToNat, ↓reduceIte, Bool.false_eq_true, Option.toList_some, Option.toList_none, List.append_nil, List.length_map, m1, m2, m3, m4, o_mod hm, if_neg Bool.false_ne_true]
        exact ⟨_, _, _, rfl, v0 _, v1 _, by omega, by omega⟩
    · have hn : ns = [] := by
        cases ns with
        | nil => rfl
        | cons x xs => exact absurd rfl h2
      subst hn
      have sp : (spot < ((0 : Nat) : Int)) = False := eq_false (by omega)
      have sp2 : (spot < 0) = False := eq_false (by omega)
      simp only [mirS, List.all_cons, List.all_nil, Bool.and_true, Bool.true_and, decide_true, List.length_cons, List.length_nil, decide_eq_true_eq, Nat.zero_le, Nat.reduceLeDiff, Int.reduceLE, Int.reduceLT, Int.reducePow, Int.reduceNeg, Int.reduceToNat, ↓reduceIte, Bool.false_eq_true, Option.toList_some, Option.toList_none, List.append_nil, List.length_map]
      refine ok_cases (fun h3 => ?_) fun h3 => ?_
      · simp only [mirS, List.all_cons, List.all_nil, Bool.and_true, Bool.true_and, decide_true, List.length_cons, List.length_nil, decide_eq_true_eq, Nat.zero_le, Nat.reduceLeDiff, Int.reduceLE, Int.reduceLT, Int.reducePow, Int.reduceNeg, Int.reduceToNat, ↓reduceIte, Bool.false_eq_true, Option.toList_some, Option.toList_none, List.append_nil, List.length_map, List.map_cons, List.map_nil, List.cons_append, List.nil_append, Nat.reduceSub, List.replicate, sp, sp2, decide_false, m1, m2, m3, m4, o_mod hm, if_neg Bool.false_ne_true, reduceIte]
        exact ⟨_, _, _, rfl, v0 _, v1 _, by omega, by omega⟩
      · simp only [mirS, List.all_cons, List.all_nil, Bool.and_true, Bool.true_and, decide_true, List.length_cons, List.length_nil, decide_eq_true_eq, Nat.zero_le, Nat.reduceLeDiff, Int.reduceLE, Int.reduceLT, Int.reducePow, Int.reduceNeg, Int.reduceToNat, ↓reduceIte, Bool.false_eq_true, Option.toList_some, Option.toList_none, List.append_nil, List.length_map, m1, m2, m3, m4, o_mod hm, if_neg Bool.false_ne_true, reduceIte]
        exact ⟨_, _, _, rfl, v0 _, v1 _, by omega, by omega⟩
theorem d3 {T : List FDef} {M i m : Nat} (hT : T[i]? = some drawD3) {ns : List Int} {s l many : Int} (h0 : 0 ≤ s) (h1 : s < 2 ^ 40) (hm : 0 < many) (hd : many < 2 ^ 200) : Ok (callF T M (m + 1) i [tp ns s l, .int many]) fun p => ∃ v s' l', p = (.int v, [tp ns s' l']) ∧ 0 ≤ v ∧ v < many ∧ s ≤ s' ∧ s' ≤ s + 1 :=
  draw3_ok hT h0 h1 hm (Int.lt_of_lt_of_le hd (by decide +kernel))
/-! ### bent things -/
theorem nodesL_app : ∀ xs ys : List D, nodesL (xs ++ ys) = nodesL xs + nodesL ys
  | [], ys => by simp [nodesL]
  | x :: xs, ys => by
    rw [List.cons_append, nodesL, nodesL, nodesL_app xs ys]
    omega
theorem nodesL_split (xs : List D) (a : Nat) : nodesL (xs.take a) + nodesL (xs.drop a) = nodesL xs := by
  rw [← nodesL_app, List.take_append_drop]
theorem nodesL_at {xs : List D} {a : Nat} (h : a < xs.length) : nodesL (xs.take a) + nodes xs[a] + nodesL (xs.drop (a + 1)) = nodesL xs := by
  rw [← nodesL_split xs a, List.drop_eq_getElem_cons h, nodesL]
  omega
theorem NiceL.exact {xs : List D} {k m : Nat} (h : NiceL xs k m) : NiceL xs k (nodesL xs) := ⟨h.smp, h.dep, Nat.le_refl _, h.pl⟩
theorem Nice.exact {x : D} {k m : Nat} (h : Nice x k m) : Nice x k (nodes x) := ⟨h.smp, h.dep, Nat.le_refl _, h.pl⟩
theorem niceL_put {xs : List D} {k m m' a : Nat} {e : D} (h : NiceL xs k m) (ha : a < xs.length) (he : Nice e k m') : NiceL (xs.take a ++ [e] ++ xs.drop (a + 1)) k (m - nodes xs[a] + m') := by
  have h1 := niceL_app (niceL_app (niceL_take a h).exact (niceL_cons he niceL_nil)) (niceL_drop (a + 1) h).exact
  have h2 := nodesL_at ha
  have h3 := h.nod
  exact niceL_mono h1 (Nat.le_refl _) (by omega)
theorem niceL_cutOut {xs : List D} {k m : Nat} (a : Nat) (h : NiceL xs k m) : NiceL (xs.take a ++ xs.drop (a + 1)) k m := by
  have h1 := niceL_app (niceL_take a h).exact (niceL_drop (a + 1) h).exact
  refine niceL_mono h1 (Nat.le_refl _) ?_
  have h3 := h.nod
  by_cases ha : a < xs.length
  · have h2 := nodesL_at ha
    omega
  · rw [List.drop_eq_nil_of_le (by omega), List.take_of_length_le (by omega), nodesL]
    omega
theorem niceL_in {xs : List D} {k m m' : Nat} {e : D} (a : Nat) (h : NiceL xs k m) (he : Nice e k m') : NiceL (xs.take a ++ [e] ++ xs.drop a) k (m + m') := by
  have h1 := niceL_app (niceL_app (niceL_take a h).exact (niceL_cons he niceL_nil)) (niceL_drop a h).exact
  have h2 := nodesL_split xs a
  have h3 := h.nod
  exact niceL_mono h1 (Nat.le_refl _) (by omega)
theorem niceL_twice {xs : List D} {k m : Nat} (a b : Nat) (h : NiceL xs k m) : NiceL (xs.take a ++ (xs.drop a).take b ++ xs.drop a) k (2 * m) := by
  have h1 := niceL_app (niceL_app (niceL_take a h).exact (niceL_take b (niceL_drop a h))) (niceL_drop a h).exact
  have h2 := nodesL_split xs a
  have h3 := h.nod
  exact niceL_mono h1 (Nat.le_refl _) (by omega)
theorem o_rev_t {xs : List D} : prim .rev [.tuple xs] = .ok (.tuple xs.reverse) := (Eq.trans rfl rfl)
theorem o_ne_tnil {xs : List D} : prim .ne [.tuple xs, .tuple []] = .ok (.bool (!xs.isEmpty)) := by
  show ((Res.guard (dOk (.tuple xs) (.tuple [])) >>= fun _ => .ok (PyData.eqv (.tuple xs) (.tuple []))) >>= fun r => Res.ok (PyData.bool (!r))) = _
  rw [guard_of (by unfold dOk; simp [PyData.depth, PyData.depthAll])]
  cases xs <;> simp [bind_ok, PyData.eqv, PyData.eqvAll]
mutual
/-- the greatest number of bits within -/
def top : D → Nat
  | .int i => i.natAbs.log2 + 1
  | .list xs => topL xs
  | .tuple xs => topL xs
  | _ => 0
def topL : List D → Nat
  | [] => 0
  | x :: xs => max (top x) (topL xs)
end
theorem top_lt {i : Int} {b : Nat} (h : top (.int i) ≤ b) : i.natAbs < 2 ^ b := by
  simp only [top] at h
  have : i.natAbs < 2 ^ (i.natAbs.log2 + 1) := Nat.lt_log2_self
  exact Nat.lt_of_lt_of_le this (pow_le h)
theorem top_le {i : Int} {b : Nat} (hb : 0 < b) (h : i.natAbs < 2 ^ b) : top (.int i) ≤ b := by
  simp only [top]
  exact log2_lt h hb
theorem topL_app : ∀ xs ys : List D, topL (xs ++ ys) = max (topL xs) (topL ys)
  | [], ys => by simp [topL]
  | x :: xs, ys => by
    rw [List.cons_append, topL, topL, topL_app xs ys, Nat.max_assoc]
theorem topL_mem : ∀ {xs : List D} {x : D}, x ∈ xs → top x ≤ topL xs
  | y :: ys, x, h => by
    rw [topL]
    rcases List.mem_cons.mp h with rfl | h
    · exact Nat.le_max_left ..
    · exact Nat.le_trans (topL_mem h) (Nat.le_max_right ..)
theorem topL_le : ∀ {xs : List D} {b : Nat}, (∀ x ∈ xs, top x ≤ b) → topL xs ≤ b
  | [], b, _ => by simp [topL]
  | x :: xs, b, h => by
    rw [topL]
    exact Nat.max_le.mpr ⟨h x (List.mem_cons_self ..), topL_le fun y hy => h y (List.mem_cons_of_mem _ hy)⟩
theorem topL_sub {xs ys : List D} {b : Nat} (h : topL xs ≤ b) (hs : ∀ y ∈ ys, y ∈ xs) : topL ys ≤ b := topL_le fun y hy => Nat.le_trans (topL_mem (hs y hy)) h
def oddD (d : Nat) : FDef := ⟨1, 2, [0], [.set (.nm 1) (.disp false [.c .none, .c (.bool true), .c (.bool false), .c (.int 0), .c (.int 1), .p .neg [.c (.int 1)], .p .pow [.c (.int 10), .c (.int 39)], .c (.str ""), .c (.str "tie"), .disp true [], .disp false [], .disp true [.c (.int 0), .c (.int 1)], .disp true [.c (.int 1), .c (.int 0)], .disp true [.disp true [.c (.int 0), .c (.int 1)]], .disp true [.c (.int 1), .c (.int 1)], .disp true [.c (.bool true), .c (.int 2)], .c (.int 1)]),
.ret (.p .idx [.o 1, .call d [.o 0, .c (.int 17)] [0]])]⟩
theorem odd_all {ds : List D} (h : ds.all (fun x => niceB 2 4 x && decide (top x ≤ 130)) = true) : ∀ x ∈ ds, Nice x 2 4 ∧ top x ≤ 130 := fun x hx => by
  have := List.all_eq_true.mp h x hx
  rw [Bool.and_eq_true, decide_eq_true_eq] at this
  exact ⟨nice_of this.1, this.2⟩
theorem odd3_ok {T : List FDef} {M n i d : Nat} (hT : T[i]? = some (oddD d)) (hd : T[d]? = some drawD3) {ns : List Int} {s l : Int} (h0 : 0 ≤ s) (h1 : s < 2 ^ 30) :
    Ok (callF T M (n + 2) i [tp ns s l]) fun p => ∃ x s' l', p = (x, [tp ns s' l']) ∧ s ≤ s' ∧ s' ≤ s + 1 ∧ Nice x 2 4 ∧ top x ≤ 130 := by
  refine call_ok hT rfl ?_
  unfold oddD
  simp only [mirS, List.all_cons, List.all_nil, Bool.and_true, Bool.true_and, decide_true, List.length_cons, List.length_nil, decide_eq_true_eq, Nat.zero_le, Nat.reduceLeDiff, Int.reduceLE, Int.reduceLT, Int.reducePow, Int.reduceNeg, Int.reduceToNat, ↓reduceIte, Bool.false_eq_true, Option.toList_some, Option.toList_none, List.append_nil, List.length_map, List.map_cons, List.map_nil, List.cons_append, List.nil_append, Nat.reduceSub, List.replicate]
  refine (d3 hd (by omega) (by omega) (by decide) (by decide)).mono ?_
  rintro _ ⟨v, s1, l1, rfl, hv0, hv1, q1, q2⟩
  obtain ⟨m, em, hm⟩ := menu_D [.none, .bool true, .bool false, .int 0, .int 1, .int (-1), .int 1000000000000000000000000000000000000000, .str "", .str "tie", .tuple [], .list [], .tuple [.int 0, .int 1], .tuple [.int 1, .int 0], .tuple [.tuple [.int 0, .int 1]], .tuple [.int 1, .int 1], .tuple [.bool true, .int 2], .int 1] (P := fun x => Nice x 2 4 ∧ top x ≤ 130) (odd_all (by decide +kernel)) hv0 hv1
  simp only [mirS, List.all_cons, List.all_nil, Bool.and_true, Bool.true_and, decide_true, List.length_cons, List.length_nil, decide_eq_true_eq, Nat.zero_le, Nat.reduceLeDiff, Int.reduceLE, Int.reduceLT, Int.reducePow, Int.reduceNeg, Int.reduceToNat, ↓reduceIte, Bool.false_eq_true, Option.toList_some, Option.toList_none, List.append_nil, List.length_map, em]
  exact ⟨_, _, _, rfl, q1, q2, hm⟩
def bentD (d w o b : Nat) : FDef := ⟨2, 4, [0], [.ite (.and (.p (.isinst .tuple) [.o 1]) (.and (.p .ne [.o 1, .disp true []]) (.p .gt [.call d [.o 0, .c (.int 4)] [0], .c (.int 0)]))) [.set (.nm 2) (.call d [.o 0, .p .len [.o 1]] [0]),
.ret (.p .add [.p .add [.cut [.o 1] [] [.v 2], .disp true [.call b [.o 0, .p .idx [.o 1, .o 2]] [0]]], .cut [.o 1] [.p .add [.o 2, .c (.int 1)]] []])] [],
.ite (.not (.p (.isinst .tuple) [.o 1])) [.ite (.and (.call w [.v 1] []) (.p .gt [.call d [.o 0, .c (.int 3)] [0], .c (.int 0)])) [.ret (.p .idx [.disp false [.p .add [.o 1, .c (.int 1)], .p .sub [.o 1, .c (.int 1)], .p .eq [.o 1, .c (.int 1)]], .call d [.o 0, .c (.int 3)] [0]])] [],
.ret (.call o [.o 0] [0])] [],
.set (.nm 3) (.call d [.o 0, .c (.int 7)] [0]),
.set (.nm 2) (.call d [.o 0, .p .add [.p .len [.o 1], .c (.int 1)]] [0]),
.ite (.p .eq [.o 3, .c (.int 0)]) [.ret (.p .list [.o 1])] [],
.ite (.p .eq [.o 3, .c (.int 1)]) [.ret (.p .add [.cut [.o 1] [] [.v 2], .cut [.o 1] [.p .add [.o 2, .c (.int 1)]] []])] [],
.ite (.p .eq [.o 3, .c (.int 2)]) [.ret (.p .add [.p .add [.cut [.o 1] [] [.v 2], .disp true [.call o [.o 0] [0]]], .cut [.o 1] [.v 2] []])] [],
.ite (.p .eq [.o 3, .c (.int 3)]) [.ret (.p .rev [.o 1])] [],
.ite (.p .eq [.o 3, .c (.int 4)]) [.ret (.p .add [.p .add [.cut [.o 1] [] [.v 2], .cut [.o 1] [.v 2] [.p .add [.o 2, .c (.int 1)]]], .cut [.o 1] [.v 2] []])] [],
.ret (.p .idx [.disp false [.call o [.o 0] [0], .disp true [.v 1]], .p .sub [.o 3, .c (.int 5)]])]⟩

section
variable {T : List FDef} {M d w o b : Nat} {ns : List Int}
theorem pAdd_t3 {xs : List D} (hl : xs.length ≤ 400) {a c : Nat} {e : D} : prim .add [.tuple (xs.take a ++ [e]), .tuple (xs.drop c)] = .ok (.tuple (xs.take a ++ [e] ++ xs.drop c)) := pAdd_t (by rw [List.length_append, List.length_take, List.length_singleton, List.length_drop]; omega)
theorem pAdd_t1 {xs : List D} (hl : xs.length ≤ 400) {a : Nat} {e : D} : prim .add [.tuple (xs.take a), .tuple [e]] = .ok (.tuple (xs.take a ++ [e])) := pAdd_t (by rw [List.length_take, List.length_singleton]; omega)
theorem nice_top {i : Int} {k b : Nat} (h : top (.int i) ≤ b) (hb : b ≤ 1920) : Nice (.int i) k 1 := nice_int (Nat.lt_of_lt_of_le (top_lt h) (pow_le hb))
theorem top_near {i j : Int} {b : Nat} (h : top (.int i) ≤ b) (hj : j.natAbs ≤ i.natAbs + 1) (hb : 0 < b) : top (.int j) ≤ b + 1 := by
  have h1 := top_lt h
  refine top_le (by omega) ?_
  have h2 : 2 ≤ 2 ^ b := by
    have := pow_le (show 1 ≤ b from hb)
    simpa using this
  rw [Nat.pow_succ]
  omega
theorem bent0_ok (hB : T[b]? = some (bentD d w o b)) (hd : T[d]? = some drawD3) (hw : T[w]? = some wholeD) (ho : T[o]? = some (oddD d)) {n q : Nat} {x : D} {s l : Int} (h0 : 0 ≤ s) (h1 : s < 2 ^ 29) (hq : 130 ≤ q) (hq2 : q ≤ 1900) (hnt : isK .tuple x = false) (ht : top x ≤ q) :
    Ok (callF T M (n + 3) b [tp ns s l, x]) fun p => ∃ y s' l', p = (y, [tp ns s' l']) ∧ s ≤ s' ∧ s' ≤ s + 4 ∧ Nice y 2 4 ∧ top y ≤ q + 1 := by
  refine call_ok hB rfl ?_
  unfold bentD
  simp only [mirS, List.all_cons, List.all_nil, Bool.and_true, Bool.true_and, decide_true, List.length_cons, List.length_nil, decide_eq_true_eq, Nat.zero_le, Nat.reduceLeDiff, Int.reduceLE, Int.reduceLT, Int.reducePow, Int.reduceNeg, Int.reduceToNat, ↓reduceIte, Bool.false_eq_true, Option.toList_some, Option.toList_none, List.append_nil, List.length_map, List.map_cons, List.map_nil, List.cons_append, List.nil_append, Nat.reduceSub, List.replicate, o_inst, hnt, Bool.not_false]
  refine (whole_ok hw).mono ?_
  rintro _ rfl
  cases hW : isW x with
  | false =>
    simp only [mirS, List.all_cons, List.all_nil, Bool.and_true, Bool.true_and, decide_true, List.length_cons, List.length_nil, decide_eq_true_eq, Nat.zero_le, Nat.reduceLeDiff, Int.reduceLE, Int.reduceLT, Int.reducePow, Int.reduceNeg, Int.reduceToNat, ↓reduceIte, Bool.false_eq_true, Option.toList_some, Option.toList_none, List.append_nil, List.length_map]
    refine (odd3_ok ho hd (by omega) (by omega)).mono ?_
    rintro _ ⟨y, s2, l2, rfl, q3, q4, hy, hyt⟩
    simp only [mirS, List.all_cons, List.all_nil, Bool.and_true, Bool.true_and, decide_true, List.length_cons, List.length_nil, decide_eq_true_eq, Nat.zero_le, Nat.reduceLeDiff, Int.reduceLE, Int.reduceLT, Int.reducePow, Int.reduceNeg, Int.reduceToNat, ↓reduceIte, Bool.false_eq_true, Option.toList_some, Option.toList_none, List.append_nil, List.length_map]
    exact ⟨_, _, _, rfl, by omega, by omega, hy, by omega⟩
  | true =>
    obtain ⟨i, rfl⟩ : ∃ i, x = .int i := by cases x <;> first | exact ⟨_, rfl⟩ | cases hW
    simp only [mirS, List.all_cons, List.all_nil, Bool.and_true, Bool.true_and, decide_true, List.length_cons, List.length_nil, decide_eq_true_eq, Nat.zero_le, Nat.reduceLeDiff, Int.reduceLE, Int.reduceLT, Int.reducePow, Int.reduceNeg, Int.reduceToNat, ↓reduceIte, Bool.false_eq_true, Option.toList_some, Option.toList_none, List.append_nil, List.length_map]
    refine (d3 hd (by omega) (by omega) (by decide) (by decide)).mono ?_
    rintro _ ⟨v, s1, l1, rfl, hv0, hv1, q1, q2⟩
    simp only [mirS, List.all_cons, List.all_nil, Bool.and_true, Bool.true_and, decide_true, List.length_cons, List.length_nil, decide_eq_true_eq, Nat.zero_le, Nat.reduceLeDiff, Int.reduceLE, Int.reduceLT, Int.reducePow, Int.reduceNeg, Int.reduceToNat, ↓reduceIte, Bool.false_eq_true, Option.toList_some, Option.toList_none, List.append_nil, List.length_map]
    refine ok_cases (fun h => ?_) fun h => ?_
    · simp only [mirS, List.all_cons, List.all_nil, Bool.and_true, Bool.true_and, decide_true, List.length_cons, List.length_nil, decide_eq_true_eq, Nat.zero_le, Nat.reduceLeDiff, Int.reduceLE, Int.reduceLT, Int.reducePow, Int.reduceNeg, Int.reduceToNat, ↓reduceIte, Bool.false_eq_true, Option.toList_some, Option.toList_none, List.append_nil, List.length_map, List.map_cons, List.map_nil, List.cons_append, List.nil_append, Nat.reduceSub, List.replicate]
      refine (d3 hd (by omega) (by omega) (by decide) (by decide)).mono ?_
      rintro _ ⟨u, s2, l2, rfl, hu0, hu1, q3, q4⟩
      obtain ⟨r, er, hr⟩ := menu_D [.int (i + 1), .int (i - 1), .bool (decide (i = 1))] (P := fun y => Nice y 2 4 ∧ top y ≤ q + 1) (by
        have t1 := top_near (j := i + 1) ht (by omega) (by omega)
        have t2 := top_near (j := i - 1) ht (by omega) (by omega)
        intro y hy
        simp only [List.mem_cons, List.not_mem_nil, or_false] at hy
        rcases hy with rfl | rfl | rfl
        · exact ⟨(nice_top (k := 0) t1 (by omega)).mono (by omega) (by omega), t1⟩
        · exact ⟨(nice_top (k := 0) t2 (by omega)).mono (by omega) (by omega), t2⟩
        · exact ⟨nice_bool.mono (Nat.zero_le _) (by omega), by simp [top]⟩) hu0 hu1
      simp only [mirS, List.all_cons, List.all_nil, Bool.and_true, Bool.true_and, decide_true, List.length_cons, List.length_nil, decide_eq_true_eq, Nat.zero_le, Nat.reduceLeDiff, Int.reduceLE, Int.reduceLT, Int.reducePow, Int.reduceNeg, Int.reduceToNat, ↓reduceIte, Bool.false_eq_true, Option.toList_some, Option.toList_none, List.append_nil, List.length_map, er]
      exact ⟨_, _, _, rfl, by omega, by omega, hr⟩
    · simp only [mirS, List.all_cons, List.all_nil, Bool.and_true, Bool.true_and, decide_true, List.length_cons, List.length_nil, decide_eq_true_eq, Nat.zero_le, Nat.reduceLeDiff, Int.reduceLE, Int.reduceLT, Int.reducePow, Int.reduceNeg, Int.reduceToNat, ↓reduceIte, Bool.false_eq_true, Option.toList_some, Option.toList_none, List.append_nil, List.length_map]
      refine (odd3_ok ho hd (by omega) (by omega)).mono ?_
      rintro _ ⟨y, s2, l2, rfl, q3, q4, hy, hyt⟩
      simp only [mirS, List.all_cons, List.all_nil, Bool.and_true, Bool.true_and, decide_true, List.length_cons, List.length_nil, decide_eq_true_eq, Nat.zero_le, Nat.reduceLeDiff, Int.reduceLE, Int.reduceLT, Int.reducePow, Int.reduceNeg, Int.reduceToNat, ↓reduceIte, Bool.false_eq_true, Option.toList_some, Option.toList_none, List.append_nil, List.length_map]
      exact ⟨_, _, _, rfl, by omega, by omega, hy, by omega⟩
theorem bent3_ok (hB : T[b]? = some (bentD d w o b)) (hd : T[d]? = some drawD3) (hw : T[w]? = some wholeD) (ho : T[o]? = some (oddD d)) : ∀ (k n m q : Nat) (x : D) (s l : Int), 0 ≤ s → s + 4 * (k + 1) < 2 ^ 29 → m ≤ 380 → 130 ≤ q → q ≤ 1900 → k ≤ 50 → Nice x k m → top x ≤ q →
    Ok (callF T M (n + k + 3) b [tp ns s l, x]) fun p => ∃ y s' l', p = (y, [tp ns s' l']) ∧ s ≤ s' ∧ s' ≤ s + 4 * (k + 1) ∧ Nice y (k + 2) (2 * m + 8) ∧ top y ≤ q + 1 := by
  intro k
  induction k with
  | zero =>
    intro n m q x s l h0 h1 hm hq hq2 hk hx ht
    have hnt : isK .tuple x = false := by
      cases x with
      | tuple xs =>
        have := hx.dep
        simp only [PyData.depth] at this
        omega
      | _ => rfl
    refine (bent0_ok hB hd hw ho h0 (by omega) hq hq2 hnt ht).mono ?_
    rintro _ ⟨y, s', l', rfl, q1, q2, hy, hyt⟩
    exact ⟨_, _, _, rfl, by omega, by omega, hy.mono (by omega) (by omega), hyt⟩
  | succ k ih =>
    intro n m q x s l h0 h1 hm hq hq2 hk hx ht
    by_cases hK : isK .tuple x = true
    · obtain ⟨xs, rfl⟩ : ∃ xs, x = .tuple xs := by cases x <;> first | exact ⟨_, rfl⟩ | cases hK
      have hm1 : 1 ≤ m := by
        have := hx.nod
        simp only [nodes] at this
        omega
      have hxs : NiceL xs k (m - 1) := nice_tup (hx.mono (Nat.le_refl _) (by omega))
      have htx : topL xs ≤ q := by simpa only [top] using ht
      have hl : xs.length ≤ 400 := by
        have := niceL_len hxs
        omega
      have hl2 := niceL_len hxs
      refine call_ok hB rfl ?_
      unfold bentD
      have ways : ∀ (s1 l1 : Int), s ≤ s1 → s1 ≤ s + 1 → Ok (evB (callF T M (n + k + 3)) M ((bentD d w o b).body.drop 2) [some (tp ns s1 l1), some (.tuple xs), none, none]) (endQ [0] fun p => ∃ y s' l', p = (y, [tp ns s' l']) ∧ s ≤ s' ∧ s' ≤ s + 4 * (k + 1 + 1) ∧ Nice y (k + 1 + 2) (2 * m + 8) ∧ top y ≤ q + 1) := by
        intro s1 l1 q1 q2
        unfold bentD
        simp only [List.drop_succ_cons, List.drop_zero, mirS, List.all_cons, List.all_nil, Bool.and_true, Bool.true_and, decide_true, List.length_cons, List.length_nil, decide_eq_true_eq, Nat.zero_le, Nat.reduceLeDiff, Int.reduceLE, Int.reduceLT, Int.reducePow, Int.reduceNeg, Int.reduceToNat, ↓reduceIte, Bool.false_eq_true, Option.toList_some, Option.toList_none, List.append_nil, List.length_map, List.map_cons, List.map_nil, List.cons_append, List.nil_append, Nat.reduceSub, List.replicate]
        refine (d3 hd (by omega) (by omega) (by decide) (by decide)).mono ?_
        rintro _ ⟨v, s2, l2, rfl, hv0, hv1, q3, q4⟩
        simp only [mirS, List.all_cons, List.all_nil, Bool.and_true, Bool.true_and, decide_true, List.length_cons, List.length_nil, decide_eq_true_eq, Nat.zero_le, Nat.reduceLeDiff, Int.reduceLE, Int.reduceLT, Int.reducePow, Int.reduceNeg, Int.reduceToNat, ↓reduceIte, Bool.false_eq_true, Option.toList_some, Option.toList_none, List.append_nil, List.length_map]
        refine (d3 hd (by omega) (by omega) (by omega) (by omega)).mono ?_
        rintro _ ⟨a, s3, l3, rfl, ha0, ha1, q5, q6⟩
        have e1 : (a + 1).toNat = a.toNat + 1 := by omega
        simp only [mirS, List.all_cons, List.all_nil, Bool.and_true, Bool.true_and, decide_true, List.length_cons, List.length_nil, decide_eq_true_eq, Nat.zero_le, Nat.reduceLeDiff, Int.reduceLE, Int.reduceLT, Int.reducePow, Int.reduceNeg, Int.reduceToNat, ↓reduceIte, Bool.false_eq_true, Option.toList_some, Option.toList_none, List.append_nil, List.length_map]
        refine ok_cases (fun h => ?_) fun g0 => ?_
        · simp only [mirS, List.all_cons, List.all_nil, Bool.and_true, Bool.true_and, decide_true, List.length_cons, List.length_nil, decide_eq_true_eq, Nat.zero_le, Nat.reduceLeDiff, Int.reduceLE, Int.reduceLT, Int.reducePow, Int.reduceNeg, Int.reduceToNat, ↓reduceIte, Bool.false_eq_true, Option.toList_some, Option.toList_none, List.append_nil, List.length_map]
          exact ⟨_, _, _, rfl, by omega, by omega, (nice_list hxs).mono (by omega) (by omega), by simp only [top]; omega⟩
        simp only [mirS, List.all_cons, List.all_nil, Bool.and_true, Bool.true_and, decide_true, List.length_cons, List.length_nil, decide_eq_true_eq, Nat.zero_le, Nat.reduceLeDiff, Int.reduceLE, Int.reduceLT, Int.reducePow, Int.reduceNeg, Int.reduceToNat, ↓reduceIte, Bool.false_eq_true, Option.toList_some, Option.toList_none, List.append_nil, List.length_map]
        refine ok_cases (fun h => ?_) fun g1 => ?_
        · simp only [mirS, List.all_cons, List.all_nil, Bool.and_true, Bool.true_and, decide_true, List.length_cons, List.length_nil, decide_eq_true_eq, Nat.zero_le, Nat.reduceLeDiff, Int.reduceLE, Int.reduceLT, Int.reducePow, Int.reduceNeg, Int.reduceToNat, ↓reduceIte, Bool.false_eq_true, Option.toList_some, Option.toList_none, List.append_nil, List.length_map, cut_hi_t (xs := xs) (j := a) ha0, cut_lo_t (xs := xs) (j := a + 1) (by omega), e1, pAdd_t (xs := xs.take a.toNat) (ys := xs.drop (a.toNat + 1)) (by rw [List.length_take, List.length_drop]; omega)]
          refine ⟨_, _, _, rfl, by omega, by omega, (nice_tuple (niceL_cutOut _ hxs)).mono (by omega) (by omega), ?_⟩
          simp only [top]
          have := topL_sub (ys := xs.take a.toNat ++ xs.drop (a.toNat + 1)) htx (fun y hy => by
            rcases List.mem_append.mp hy with hy | hy
            · exact List.mem_of_mem_take hy
            · exact List.mem_of_mem_drop hy)
          omega
        simp only [mirS, List.all_cons, List.all_nil, Bool.and_true, Bool.true_and, decide_true, List.length_cons, List.length_nil, decide_eq_true_eq, Nat.zero_le, Nat.reduceLeDiff, Int.reduceLE, Int.reduceLT, Int.reducePow, Int.reduceNeg, Int.reduceToNat, ↓reduceIte, Bool.false_eq_true, Option.toList_some, Option.toList_none, List.append_nil, List.length_map]
        refine ok_cases (fun h => ?_) fun g2 => ?_
        · simp only [mirS, List.all_cons, List.all_nil, Bool.and_true, Bool.true_and, decide_true, List.length_cons, List.length_nil, decide_eq_true_eq, Nat.zero_le, Nat.reduceLeDiff, Int.reduceLE, Int.reduceLT, Int.reducePow, Int.reduceNeg, Int.reduceToNat, ↓reduceIte, Bool.false_eq_true, Option.toList_some, Option.toList_none, List.append_nil, List.length_map, List.map_cons, List.map_nil, List.cons_append, List.nil_append, Nat.reduceSub, List.replicate, cut_hi_t (xs := xs) (j := a) ha0]
          refine (odd3_ok (n := n + k + 1) ho hd (by omega) (by omega)).mono ?_
          rintro _ ⟨y, s4, l4, rfl, q7, q8, hy, hyt⟩
          simp only [mirS, List.all_cons, List.all_nil, Bool.and_true, Bool.true_and, decide_true, List.length_cons, List.length_nil, decide_eq_true_eq, Nat.zero_le, Nat.reduceLeDiff, Int.reduceLE, Int.reduceLT, Int.reducePow, Int.reduceNeg, Int.reduceToNat, ↓reduceIte, Bool.false_eq_true, Option.toList_some, Option.toList_none, List.append_nil, List.length_map, List.map_cons, List.map_nil, List.cons_append, List.nil_append, Nat.reduceSub, List.replicate, pAdd_t1 hl, cut_lo_t (xs := xs) (j := a) ha0, pAdd_t3 hl]
          refine ⟨_, _, _, rfl, by omega, by omega, (nice_tuple (niceL_in (k := k + 2) a.toNat (niceL_mono hxs (by omega) (Nat.le_refl _)) (hy.mono (by omega) (Nat.le_refl _)))).mono (by omega) (by omega), ?_⟩
          simp only [top]
          rw [topL_app, topL_app]
          have t1 := topL_sub (ys := xs.take a.toNat) htx (fun y hy => List.mem_of_mem_take hy)
          have t2 := topL_sub (ys := xs.drop a.toNat) htx (fun y hy => List.mem_of_mem_drop hy)
          simp only [topL]
          omega
        simp only [mirS, List.all_cons, List.all_nil, Bool.and_true, Bool.true_and, decide_true, List.length_cons, List.length_nil, decide_eq_true_eq, Nat.zero_le, Nat.reduceLeDiff, Int.reduceLE, Int.reduceLT, Int.reducePow, Int.reduceNeg, Int.reduceToNat, ↓reduceIte, Bool.false_eq_true, Option.toList_some, Option.toList_none, List.append_nil, List.length_map]
        refine ok_cases (fun h => ?_) fun g3 => ?_
        · simp only [mirS, List.all_cons, List.all_nil, Bool.and_true, Bool.true_and, decide_true, List.length_cons, List.length_nil, decide_eq_true_eq, Nat.zero_le, Nat.reduceLeDiff, Int.reduceLE, Int.reduceLT, Int.reducePow, Int.reduceNeg, Int.reduceToNat, ↓reduceIte, Bool.false_eq_true, Option.toList_some, Option.toList_none, List.append_nil, List.length_map, o_rev_t]
          refine ⟨_, _, _, rfl, by omega, by omega, (nice_tuple (niceL_rev hxs)).mono (by omega) (by omega), ?_⟩
          simp only [top]
          have := topL_sub (ys := xs.reverse) htx (fun y hy => List.mem_reverse.mp hy)
          omega
        simp only [mirS, List.all_cons, List.all_nil, Bool.and_true, Bool.true_and, decide_true, List.length_cons, List.length_nil, decide_eq_true_eq, Nat.zero_le, Nat.reduceLeDiff, Int.reduceLE, Int.reduceLT, Int.reducePow, Int.reduceNeg, Int.reduceToNat, ↓reduceIte, Bool.false_eq_true, Option.toList_some, Option.toList_none, List.append_nil, List.length_map]
        refine ok_cases (fun h => ?_) fun g4 => ?_
        · have cm : pCut (.tuple xs) (some a) (some (a + 1)) = .ok (.tuple ((xs.drop a.toNat).take 1)) := by
            by_cases hal : a + 1 ≤ xs.length
            · rw [cut_mid_t ha0 (by omega) (by omega), e1, Nat.add_sub_cancel_left]
            · show Res.ok (PyData.tuple (cutL xs (loOf xs.length (some a)) (hiOf xs.length (some (a + 1))))) = _
              have ea : a.toNat = xs.length := by omega
              have e2 : loOf xs.length (some a) = xs.length := by
                show (if 0 ≤ a then min a.toNat xs.length else (a + xs.length).toNat) = _
                rw [if_pos ha0]
                omega
              unfold cutL
              rw [e2, ea, List.drop_length, List.take_nil, List.take_nil]
          simp only [mirS, List.all_cons, List.all_nil, Bool.and_true, Bool.true_and, decide_true, List.length_cons, List.length_nil, decide_eq_true_eq, Nat.zero_le, Nat.reduceLeDiff, Int.reduceLE, Int.reduceLT, Int.reducePow, Int.reduceNeg, Int.reduceToNat, ↓reduceIte, Bool.false_eq_true, Option.toList_some, Option.toList_none, List.append_nil, List.length_map, cut_hi_t (xs := xs) (j := a) ha0, cm, cut_lo_t (xs := xs) (j := a) ha0, pAdd_t (xs := xs.take a.toNat) (ys := (xs.drop a.toNat).take 1) (by rw [List.length_take, List.length_take, List.length_drop]; omega), pAdd_t (xs := xs.take a.toNat ++ (xs.drop a.toNat).take 1) (ys := xs.drop a.toNat) (by rw [List.length_append, List.length_take, List.length_take, List.length_drop]; omega)]
          refine ⟨_, _, _, rfl, by omega, by omega, (nice_tuple (niceL_twice _ _ hxs)).mono (by omega) (by omega), ?_⟩
          simp only [top]
          have := topL_sub (ys := xs.take a.toNat ++ (xs.drop a.toNat).take 1 ++ xs.drop a.toNat) htx (fun y hy => by
            rcases List.mem_append.mp hy with hy | hy
            · rcases List.mem_append.mp hy with hy | hy
              · exact List.mem_of_mem_take hy
              · exact List.mem_of_mem_drop (List.mem_of_mem_take hy)
            · exact List.mem_of_mem_drop hy)
          omega
        simp only [mirS, List.all_cons, List.all_nil, Bool.and_true, Bool.true_and, decide_true, List.length_cons, List.length_nil, decide_eq_true_eq, Nat.zero_le, Nat.reduceLeDiff, Int.reduceLE, Int.reduceLT, Int.reducePow, Int.reduceNeg, Int.reduceToNat, ↓reduceIte, Bool.false_eq_true, Option.toList_some, Option.toList_none, List.append_nil, List.length_map, List.map_cons, List.map_nil, List.cons_append, List.nil_append, Nat.reduceSub, List.replicate]
        refine (odd3_ok (n := n + k + 1) ho hd (by omega) (by omega)).mono ?_
        rintro _ ⟨y, s4, l4, rfl, q7, q8, hy, hyt⟩
        obtain ⟨r, er, hr⟩ := menu_D [y, .tuple [.tuple xs]] (v := v - 5) (P := fun y => Nice y (k + 1 + 2) (2 * m + 8) ∧ top y ≤ q + 1) (by
          intro z hz
          simp only [List.mem_cons, List.not_mem_nil, or_false] at hz
          rcases hz with rfl | rfl
          · exact ⟨hy.mono (by omega) (by omega), by omega⟩
          · exact ⟨(nice_tuple (niceL_cons (nice_tuple hxs) niceL_nil)).mono (by omega) (by omega), by simp only [top, topL]; omega⟩) (by omega) (by simp only [List.length_cons, List.length_nil]; omega)
        simp only [mirS, List.all_cons, List.all_nil, Bool.and_true, Bool.true_and, decide_true, List.length_cons, List.length_nil, decide_eq_true_eq, Nat.zero_le, Nat.reduceLeDiff, Int.reduceLE, Int.reduceLT, Int.reducePow, Int.reduceNeg, Int.reduceToNat, ↓reduceIte, Bool.false_eq_true, Option.toList_some, Option.toList_none, List.append_nil, List.length_map, List.map_cons, List.map_nil, List.cons_append, List.nil_append, Nat.reduceSub, List.replicate, er]
        exact ⟨_, _, _, rfl, by omega, by omega, hr⟩
      unfold bentD at ways
      simp only [List.drop_succ_cons, List.drop_zero] at ways
      cases he : xs.isEmpty with
      | true =>
        simp only [mirS, List.all_cons, List.all_nil, Bool.and_true, Bool.true_and, decide_true, List.length_cons, List.length_nil, decide_eq_true_eq, Nat.zero_le, Nat.reduceLeDiff, Int.reduceLE, Int.reduceLT, Int.reducePow, Int.reduceNeg, Int.reduceToNat, ↓reduceIte, Bool.false_eq_true, Option.toList_some, Option.toList_none, List.append_nil, List.length_map, List.map_cons, List.map_nil, List.cons_append, List.nil_append, Nat.reduceSub, List.replicate, o_inst, isK, o_ne_tnil, he, Bool.not_true]
        simp only [mirS, List.all_cons, List.all_nil, Bool.and_true, Bool.true_and, decide_true, List.length_cons, List.length_nil, decide_eq_true_eq, Nat.zero_le, Nat.reduceLeDiff, Int.reduceLE, Int.reduceLT, Int.reducePow, Int.reduceNeg, Int.reduceToNat, ↓reduceIte, Bool.false_eq_true, Option.toList_some, Option.toList_none, List.append_nil, List.length_map, List.map_cons, List.map_nil, List.cons_append, List.nil_append, Nat.reduceSub, List.replicate] at ways
        exact ways s l (by omega) (by omega)
      | false =>
        have lp : 0 < xs.length := by
          cases xs with
          | nil => cases he
          | cons x xs => simp
        simp only [mirS, List.all_cons, List.all_nil, Bool.and_true, Bool.true_and, decide_true, List.length_cons, List.length_nil, decide_eq_true_eq, Nat.zero_le, Nat.reduceLeDiff, Int.reduceLE, Int.reduceLT, Int.reducePow, Int.reduceNeg, Int.reduceToNat, ↓reduceIte, Bool.false_eq_true, Option.toList_some, Option.toList_none, List.append_nil, List.length_map, List.map_cons, List.map_nil, List.cons_append, List.nil_append, Nat.reduceSub, List.replicate, o_inst, isK, o_ne_tnil, he, Bool.not_false]
        refine (d3 hd (by omega) (by omega) (by decide) (by decide)).mono ?_
        rintro _ ⟨v, s1, l1, rfl, hv0, hv1, q1, q2⟩
        simp only [mirS, List.all_cons, List.all_nil, Bool.and_true, Bool.true_and, decide_true, List.length_cons, List.length_nil, decide_eq_true_eq, Nat.zero_le, Nat.reduceLeDiff, Int.reduceLE, Int.reduceLT, Int.reducePow, Int.reduceNeg, Int.reduceToNat, ↓reduceIte, Bool.false_eq_true, Option.toList_some, Option.toList_none, List.append_nil, List.length_map]
        refine ok_cases (fun h => ?_) fun h => ?_
        · simp only [mirS, List.all_cons, List.all_nil, Bool.and_true, Bool.true_and, decide_true, List.length_cons, List.length_nil, decide_eq_true_eq, Nat.zero_le, Nat.reduceLeDiff, Int.reduceLE, Int.reduceLT, Int.reducePow, Int.reduceNeg, Int.reduceToNat, ↓reduceIte, Bool.false_eq_true, Option.toList_some, Option.toList_none, List.append_nil, List.length_map]
          refine (d3 hd (by omega) (by omega) (by omega) (by omega)).mono ?_
          rintro _ ⟨a, s2, l2, rfl, ha0, ha1, q3, q4⟩
          have hat : a.toNat < xs.length := by omega
          have e1 : (a + 1).toNat = a.toNat + 1 := by omega
          have ex : prim .idx [.tuple xs, .int a] = .ok xs[a.toNat] := o_idx_t ha0 (List.getElem?_eq_getElem hat)
          have hmem := List.getElem_mem hat
          have hnx := (niceL_mem hxs _ hmem).exact
          have hnn := nodesL_at hat
          have hnod := hxs.nod
          simp only [mirS, List.all_cons, List.all_nil, Bool.and_true, Bool.true_and, decide_true, List.length_cons, List.length_nil, decide_eq_true_eq, Nat.zero_le, Nat.reduceLeDiff, Int.reduceLE, Int.reduceLT, Int.reducePow, Int.reduceNeg, Int.reduceToNat, ↓reduceIte, Bool.false_eq_true, Option.toList_some, Option.toList_none, List.append_nil, List.length_map, List.map_cons, List.map_nil, List.cons_append, List.nil_append, Nat.reduceSub, List.replicate, cut_hi_t (xs := xs) (j := a) ha0, ex]
          refine (ih n (nodes xs[a.toNat]) q xs[a.toNat] s2 l2 (by omega) (by omega) (by omega) hq hq2 (by omega) hnx (Nat.le_trans (topL_mem hmem) htx)).mono ?_
          rintro _ ⟨y, s3, l3, rfl, q5, q6, hy, hyt⟩
          simp only [mirS, List.all_cons, List.all_nil, Bool.and_true, Bool.true_and, decide_true, List.length_cons, List.length_nil, decide_eq_true_eq, Nat.zero_le, Nat.reduceLeDiff, Int.reduceLE, Int.reduceLT, Int.reducePow, Int.reduceNeg, Int.reduceToNat, ↓reduceIte, Bool.false_eq_true, Option.toList_some, Option.toList_none, List.append_nil, List.length_map, List.map_cons, List.map_nil, List.cons_append, List.nil_append, Nat.reduceSub, List.replicate, pAdd_t1 hl, cut_lo_t (xs := xs) (j := a + 1) (by omega), e1, pAdd_t3 hl]
          refine ⟨_, _, _, rfl, by omega, by omega, (nice_tuple (niceL_put (niceL_mono hxs (show k ≤ k + 2 by omega) (Nat.le_refl _)) hat hy)).mono (by omega) (by omega), ?_⟩
          simp only [top]
          rw [topL_app, topL_app]
          have t1 := topL_sub (ys := xs.take a.toNat) htx (fun y hy => List.mem_of_mem_take hy)
          have t2 := topL_sub (ys := xs.drop (a.toNat + 1)) htx (fun y hy => List.mem_of_mem_drop hy)
          simp only [topL]
          omega
        · simp only [mirS, List.all_cons, List.all_nil, Bool.and_true, Bool.true_and, decide_true, List.length_cons, List.length_nil, decide_eq_true_eq, Nat.zero_le, Nat.reduceLeDiff, Int.reduceLE, Int.reduceLT, Int.reducePow, Int.reduceNeg, Int.reduceToNat, ↓reduceIte, Bool.false_eq_true, Option.toList_some, Option.toList_none, List.append_nil, List.length_map, List.map_cons, List.map_nil, List.cons_append, List.nil_append, Nat.reduceSub, List.replicate, o_inst, isK, Bool.not_true]
          simp only [mirS, List.all_cons, List.all_nil, Bool.and_true, Bool.true_and, decide_true, List.length_cons, List.length_nil, decide_eq_true_eq, Nat.zero_le, Nat.reduceLeDiff, Int.reduceLE, Int.reduceLT, Int.reducePow, Int.reduceNeg, Int.reduceToNat, ↓reduceIte, Bool.false_eq_true, Option.toList_some, Option.toList_none, List.append_nil, List.length_map, List.map_cons, List.map_nil, List.cons_append, List.nil_append, Nat.reduceSub, List.replicate] at ways
          exact ways s1 l1 (by omega) (by omega)
    · have hnt : isK .tuple x = false := by simpa using hK
      refine (bent0_ok (n := n + k + 1) hB hd hw ho h0 (by omega) hq hq2 hnt ht).mono ?_
      rintro _ ⟨y, s', l', rfl, q1, q2, hy, hyt⟩
      exact ⟨_, _, _, rfl, by omega, by omega, hy.mono (by omega) (by omega), hyt⟩
end
end Mir.P
/-! Mir, part Bt: what a bent thing is made of. -/
namespace Mir.P
open PySem
set_option maxHeartbeats 4000000
def odds : List D := [.none, .bool true, .bool false, .int 0, .int 1, .int (-1), .int 1000000000000000000000000000000000000000, .str "", .str "tie", .tuple [], .list [], .tuple [.int 0, .int 1], .tuple [.int 1, .int 0], .tuple [.tuple [.int 0, .int 1]], .tuple [.int 1, .int 1], .tuple [.bool true, .int 2], .int 1]
inductive BentR : D → D → Prop
  | at_ {xs : List D} {a : Nat} {y : D} (h : a < xs.length) : BentR xs[a] y → BentR (.tuple xs) (.tuple (xs.take a ++ [y] ++ xs.drop (a + 1)))
  | up {i : Int} : BentR (.int i) (.int (i + 1))
  | down {i : Int} : BentR (.int i) (.int (i - 1))
  | one {i : Int} : BentR (.int i) (.bool (decide (i = 1)))
  | odd {x y : D} : y ∈ odds → BentR x y
  | lst {xs : List D} : BentR (.tuple xs) (.list xs)
  | out {xs : List D} (a : Nat) : BentR (.tuple xs) (.tuple (xs.take a ++ xs.drop (a + 1)))
  | put {xs : List D} {y : D} (a : Nat) : y ∈ odds → BentR (.tuple xs) (.tuple (xs.take a ++ [y] ++ xs.drop a))
  | rev {xs : List D} : BentR (.tuple xs) (.tuple xs.reverse)
  | twice {xs : List D} (a : Nat) : BentR (.tuple xs) (.tuple (xs.take a ++ (xs.drop a).take 1 ++ xs.drop a))
  | in1 {xs : List D} : BentR (.tuple xs) (.tuple [.tuple xs])
theorem Ok.and {α : Type} {x : Res α} {P Q : α → Prop} (h : Ok x P) (g : Ok x Q) : Ok x fun a => P a ∧ Q a := by
  obtain ⟨a, e, p⟩ := h
  obtain ⟨b, e', q⟩ := g
  rw [e] at e'
  cases e'
  exact ⟨a, e, p, q⟩
section
variable {T : List FDef} {M d w o b : Nat} {ns : List Int}
theorem oddR_ok {n i : Nat} (hT : T[i]? = some (oddD d)) (hd : T[d]? = some drawD3) {s l : Int} (h0 : 0 ≤ s) (h1 : s < 2 ^ 30) :
    Ok (callF T M (n + 2) i [tp ns s l]) fun p => ∃ x s' l', p = (x, [tp ns s' l']) ∧ s ≤ s' ∧ s' ≤ s + 1 ∧ x ∈ odds := by
  refine call_ok hT rfl ?_
  unfold oddD
  simp only [mirS, List.all_cons, List.all_nil, Bool.and_true, Bool.true_and, decide_true, List.length_cons, List.length_nil, decide_eq_true_eq, Nat.zero_le, Nat.reduceLeDiff, Int.reduceLE, Int.reduceLT, Int.reducePow, Int.reduceNeg, Int.reduceToNat, ↓reduceIte, Bool.false_eq_true, Option.toList_some, Option.toList_none, List.append_nil, List.length_map, List.map_cons, List.map_nil, List.cons_append, List.nil_append, Nat.reduceSub, List.replicate]
  refine (d3 hd (by omega) (by omega) (by decide) (by decide)).mono ?_
  rintro _ ⟨v, s1, l1, rfl, hv0, hv1, q1, q2⟩
  obtain ⟨m, em, hm⟩ := menu_D odds (P := fun x => x ∈ odds) (fun x hx => hx) hv0 hv1
  unfold odds at em
  simp only [mirS, List.all_cons, List.all_nil, Bool.and_true, Bool.true_and, decide_true, List.length_cons, List.length_nil, decide_eq_true_eq, Nat.zero_le, Nat.reduceLeDiff, Int.reduceLE, Int.reduceLT, Int.reducePow, Int.reduceNeg, Int.reduceToNat, ↓reduceIte, Bool.false_eq_true, Option.toList_some, Option.toList_none, List.append_nil, List.length_map, em]
  exact ⟨_, _, _, rfl, q1, q2, hm⟩
theorem bentR0 (hB : T[b]? = some (bentD d w o b)) (hd : T[d]? = some drawD3) (hw : T[w]? = some wholeD) (ho : T[o]? = some (oddD d)) {n : Nat} {x : D} {s l : Int} (h0 : 0 ≤ s) (h1 : s < 2 ^ 29) (hnt : isK .tuple x = false) :
    Ok (callF T M (n + 3) b [tp ns s l, x]) fun p => ∃ y s' l', p = (y, [tp ns s' l']) ∧ BentR x y := by
  refine call_ok hB rfl ?_
  unfold bentD
  simp only [mirS, List.all_cons, List.all_nil, Bool.and_true, Bool.true_and, decide_true, List.length_cons, List.length_nil, decide_eq_true_eq, Nat.zero_le, Nat.reduceLeDiff, Int.reduceLE, Int.reduceLT, Int.reducePow, Int.reduceNeg, Int.reduceToNat, ↓reduceIte, Bool.false_eq_true, Option.toList_some, Option.toList_none, List.append_nil, List.length_map, List.map_cons, List.map_nil, List.cons_append, List.nil_append, Nat.reduceSub, List.replicate, o_inst, hnt, Bool.not_false]
  refine (whole_ok hw).mono ?_
  rintro _ rfl
  cases hW : isW x with
  | false =>
    simp only [mirS, List.all_cons, List.all_nil, Bool.and_true, Bool.true_and, decide_true, List.length_cons, List.length_nil, decide_eq_true_eq, Nat.zero_le, Nat.reduceLeDiff, Int.reduceLE, Int.reduceLT, Int.reducePow, Int.reduceNeg, Int.reduceToNat, ↓reduceIte, Bool.false_eq_true, Option.toList_some, Option.toList_none, List.append_nil, List.length_map]
    refine (oddR_ok ho hd (by omega) (by omega)).mono ?_
    rintro _ ⟨y, s2, l2, rfl, q3, q4, hy⟩
    simp only [mirS, List.all_cons, List.all_nil, Bool.and_true, Bool.true_and, decide_true, List.length_cons, List.length_nil, decide_eq_true_eq, Nat.zero_le, Nat.reduceLeDiff, Int.reduceLE, Int.reduceLT, Int.reducePow, Int.reduceNeg, Int.reduceToNat, ↓reduceIte, Bool.false_eq_true, Option.toList_some, Option.toList_none, List.append_nil, List.length_map]
    exact ⟨_, _, _, rfl, .odd hy⟩
  | true =>
    obtain ⟨i, rfl⟩ : ∃ i, x = .int i := by cases x <;> first | exact ⟨_, rfl⟩ | cases hW
    simp only [mirS, List.all_cons, List.all_nil, Bool.and_true, Bool.true_and, decide_true, List.length_cons, List.length_nil, decide_eq_true_eq, Nat.zero_le, Nat.reduceLeDiff, Int.reduceLE, Int.reduceLT, Int.reducePow, Int.reduceNeg, Int.reduceToNat, ↓reduceIte, Bool.false_eq_true, Option.toList_some, Option.toList_none, List.append_nil, List.length_map]
    refine (d3 hd (by omega) (by omega) (by decide) (by decide)).mono ?_
    rintro _ ⟨v, s1, l1, rfl, hv0, hv1, q1, q2⟩
    simp only [mirS, List.all_cons, List.all_nil, Bool.and_true, Bool.true_and, decide_true, List.length_cons, List.length_nil, decide_eq_true_eq, Nat.zero_le, Nat.reduceLeDiff, Int.reduceLE, Int.reduceLT, Int.reducePow, Int.reduceNeg, Int.reduceToNat, ↓reduceIte, Bool.false_eq_true, Option.toList_some, Option.toList_none, List.append_nil, List.length_map]
    refine ok_cases (fun h => ?_) fun h => ?_
    · simp only [mirS, List.all_cons, List.all_nil, Bool.and_true, Bool.true_and, decide_true, List.length_cons, List.length_nil, decide_eq_true_eq, Nat.zero_le, Nat.reduceLeDiff, Int.reduceLE, Int.reduceLT, Int.reducePow, Int.reduceNeg, Int.reduceToNat, ↓reduceIte, Bool.false_eq_true, Option.toList_some, Option.toList_none, List.append_nil, List.length_map, List.map_cons, List.map_nil, List.cons_append, List.nil_append, Nat.reduceSub, List.replicate]
      refine (d3 hd (by omega) (by omega) (by decide) (by decide)).mono ?_
      rintro _ ⟨u, s2, l2, rfl, hu0, hu1, q3, q4⟩
      obtain ⟨r, er, hr⟩ := menu_D [.int (i + 1), .int (i - 1), .bool (decide (i = 1))] (P := fun y => BentR (.int i) y) (by
        intro y hy
        simp only [List.mem_cons, List.not_mem_nil, or_false] at hy
        rcases hy with rfl | rfl | rfl
        · exact .up
        · exact .down
        · exact .one) hu0 hu1
      simp only [mirS, List.all_cons, List.all_nil, Bool.and_true, Bool.true_and, decide_true, List.length_cons, List.length_nil, decide_eq_true_eq, Nat.zero_le, Nat.reduceLeDiff, Int.reduceLE, Int.reduceLT, Int.reducePow, Int.reduceNeg, Int.reduceToNat, ↓reduceIte, Bool.false_eq_true, Option.toList_some, Option.toList_none, List.append_nil, List.length_map, er]
      exact ⟨_, _, _, rfl, hr⟩
    · simp only [mirS, List.all_cons, List.all_nil, Bool.and_true, Bool.true_and, decide_true, List.length_cons, List.length_nil, decide_eq_true_eq, Nat.zero_le, Nat.reduceLeDiff, Int.reduceLE, Int.reduceLT, Int.reducePow, Int.reduceNeg, Int.reduceToNat, ↓reduceIte, Bool.false_eq_true, Option.toList_some, Option.toList_none, List.append_nil, List.length_map]
      refine (oddR_ok ho hd (by omega) (by omega)).mono ?_
      rintro _ ⟨y, s2, l2, rfl, q3, q4, hy⟩
      simp only [mirS, List.all_cons, List.all_nil, Bool.and_true, Bool.true_and, decide_true, List.length_cons, List.length_nil, decide_eq_true_eq, Nat.zero_le, Nat.reduceLeDiff, Int.reduceLE, Int.reduceLT, Int.reducePow, Int.reduceNeg, Int.reduceToNat, ↓reduceIte, Bool.false_eq_true, Option.toList_some, Option.toList_none, List.append_nil, List.length_map]
      exact ⟨_, _, _, rfl, .odd hy⟩
theorem bentR_ok (hB : T[b]? = some (bentD d w o b)) (hd : T[d]? = some drawD3) (hw : T[w]? = some wholeD) (ho : T[o]? = some (oddD d)) : ∀ (k n m : Nat) (x : D) (s l : Int), 0 ≤ s → s + 4 * (k + 1) < 2 ^ 29 → m ≤ 380 → k ≤ 50 → Nice x k m →
    Ok (callF T M (n + k + 3) b [tp ns s l, x]) fun p => ∃ y s' l', p = (y, [tp ns s' l']) ∧ BentR x y := by
  intro k
  induction k with
  | zero =>
    intro n m x s l h0 h1 hm hk hx
    have hnt : isK .tuple x = false := by
      cases x with
      | tuple xs =>
        have := hx.dep
        simp only [PyData.depth] at this
        omega
      | _ => rfl
    exact bentR0 hB hd hw ho h0 (by omega) hnt
  | succ k ih =>
    intro n m x s l h0 h1 hm hk hx
    by_cases hK : isK .tuple x = true
    · obtain ⟨xs, rfl⟩ : ∃ xs, x = .tuple xs := by cases x <;> first | exact ⟨_, rfl⟩ | cases hK
      have hm1 : 1 ≤ m := by
        have := hx.nod
        simp only [nodes] at this
        omega
      have hxs : NiceL xs k (m - 1) := nice_tup (hx.mono (Nat.le_refl _) (by omega))
      have hl : xs.length ≤ 400 := by
        have := niceL_len hxs
        omega
      refine call_ok hB rfl ?_
      unfold bentD
      have ways : ∀ (s1 l1 : Int), s ≤ s1 → s1 ≤ s + 1 → Ok (evB (callF T M (n + k + 3)) M ((bentD d w o b).body.drop 2) [some (tp ns s1 l1), some (.tuple xs), none, none]) (endQ [0] fun p => ∃ y s' l', p = (y, [tp ns s' l']) ∧ BentR (.tuple xs) y) := by
        intro s1 l1 q1 q2
        unfold bentD
        simp only [List.drop_succ_cons, List.drop_zero, mirS, List.all_cons, List.all_nil, Bool.and_true, Bool.true_and, decide_true, List.length_cons, List.length_nil, decide_eq_true_eq, Nat.zero_le, Nat.reduceLeDiff, Int.reduceLE, Int.reduceLT, Int.reducePow, Int.reduceNeg, Int.reduceToNat, ↓reduceIte, Bool.false_eq_true, Option.toList_some, Option.toList_none, List.append_nil, List.length_map, List.map_cons, List.map_nil, List.cons_append, List.nil_append, Nat.reduceSub, List.replicate]
        refine (d3 hd (by omega) (by omega) (by decide) (by decide)).mono ?_
        rintro _ ⟨v, s2, l2, rfl, hv0, hv1, q3, q4⟩
        simp only [mirS, List.all_cons, List.all_nil, Bool.and_true, Bool.true_and, decide_true, List.length_cons, List.length_nil, decide_eq_true_eq, Nat.zero_le, Nat.reduceLeDiff, Int.reduceLE, Int.reduceLT, Int.reducePow, Int.reduceNeg, Int.reduceToNat, ↓reduceIte, Bool.false_eq_true, Option.toList_some, Option.toList_none, List.append_nil, List.length_map]
        refine (d3 hd (by omega) (by omega) (by omega) (by omega)).mono ?_
        rintro _ ⟨a, s3, l3, rfl, ha0, ha1, q5, q6⟩
        have e1 : (a + 1).toNat = a.toNat + 1 := by omega
        simp only [mirS, List.all_cons, List.all_nil, Bool.and_true, Bool.true_and, decide_true, List.length_cons, List.length_nil, decide_eq_true_eq, Nat.zero_le, Nat.reduceLeDiff, Int.reduceLE, Int.reduceLT, Int.reducePow, Int.reduceNeg, Int.reduceToNat, ↓reduceIte, Bool.false_eq_true, Option.toList_some, Option.toList_none, List.append_nil, List.length_map]
        refine ok_cases (fun h => ?_) fun g0 => ?_
        · simp only [mirS, List.all_cons, List.all_nil, Bool.and_true, Bool.true_and, decide_true, List.length_cons, List.length_nil, decide_eq_true_eq, Nat.zero_le, Nat.reduceLeDiff, Int.reduceLE, Int.reduceLT, Int.reducePow, Int.reduceNeg, Int.reduceToNat, ↓reduceIte, Bool.false_eq_true, Option.toList_some, Option.toList_none, List.append_nil, List.length_map]
          exact ⟨_, _, _, rfl, .lst⟩
        simp only [mirS, List.all_cons, List.all_nil, Bool.and_true, Bool.true_and, decide_true, List.length_cons, List.length_nil, decide_eq_true_eq, Nat.zero_le, Nat.reduceLeDiff, Int.reduceLE, Int.reduceLT, Int.reducePow, Int.reduceNeg, Int.reduceToNat, ↓reduceIte, Bool.false_eq_true, Option.toList_some, Option.toList_none, List.append_nil, List.length_map]
        refine ok_cases (fun h => ?_) fun g1 => ?_
        · simp only [mirS, List.all_cons, List.all_nil, Bool.and_true, Bool.true_and, decide_true, List.length_cons, List.length_nil, decide_eq_true_eq, Nat.zero_le, Nat.reduceLeDiff, Int.reduceLE, Int.reduceLT, Int.reducePow, Int.reduceNeg, Int.reduceToNat, ↓reduceIte, Bool.false_eq_true, Option.toList_some, Option.toList_none, List.append_nil, List.length_map, cut_hi_t (xs := xs) (j := a) ha0, cut_lo_t (xs := xs) (j := a + 1) (by omega), e1, pAdd_t (xs := xs.take a.toNat) (ys := xs.drop (a.toNat + 1)) (by rw [List.length_take, List.length_drop]; omega)]
          exact ⟨_, _, _, rfl, .out a.toNat⟩
        simp only [mirS, List.all_cons, List.all_nil, Bool.and_true, Bool.true_and, decide_true, List.length_cons, List.length_nil, decide_eq_true_eq, Nat.zero_le, Nat.reduceLeDiff, Int.reduceLE, Int.reduceLT, Int.reducePow, Int.reduceNeg, Int.reduceToNat, ↓reduceIte, Bool.false_eq_true, Option.toList_some, Option.toList_none, List.append_nil, List.length_map]
        refine ok_cases (fun h => ?_) fun g2 => ?_
        · simp only [mirS, List.all_cons, List.all_nil, Bool.and_true, Bool.true_and, decide_true, List.length_cons, List.length_nil, decide_eq_true_eq, Nat.zero_le, Nat.reduceLeDiff, Int.reduceLE, Int.reduceLT, Int.reducePow, Int.reduceNeg, Int.reduceToNat, ↓reduceIte, Bool.false_eq_true, Option.toList_some, Option.toList_none, List.append_nil, List.length_map, List.map_cons, List.map_nil, List.cons_append, List.nil_append, Nat.reduceSub, List.replicate, cut_hi_t (xs := xs) (j := a) ha0]
          refine (oddR_ok (n := n + k + 1) ho hd (by omega) (by omega)).mono ?_
          rintro _ ⟨y, s4, l4, rfl, q7, q8, hy⟩
          simp only [mirS, List.all_cons, List.all_nil, Bool.and_true, Bool.true_and, decide_true, List.length_cons, List.length_nil, decide_eq_true_eq, Nat.zero_le, Nat.reduceLeDiff, Int.reduceLE, Int.reduceLT, Int.reducePow, Int.reduceNeg, Int.reduceToNat, ↓reduceIte, Bool.false_eq_true, Option.toList_some, Option.toList_none, List.append_nil, List.length_map, List.map_cons, List.map_nil, List.cons_append, List.nil_append, Nat.reduceSub, List.replicate, pAdd_t1 hl, cut_lo_t (xs := xs) (j := a) ha0, pAdd_t3 hl]
          exact ⟨_, _, _, rfl, .put a.toNat hy⟩
        simp only [mirS, List.all_cons, List.all_nil, Bool.and_true, Bool.true_and, decide_true, List.length_cons, List.length_nil, decide_eq_true_eq, Nat.zero_le, Nat.reduceLeDiff, Int.reduceLE, Int.reduceLT, Int.reducePow, Int.reduceNeg, Int.reduceToNat, ↓reduceIte, Bool.false_eq_true, Option.toList_some, Option.toList_none, List.append_nil, List.length_map]
        refine ok_cases (fun h => ?_) fun g3 => ?_
        · simp only [mirS, List.all_cons, List.all_nil, Bool.and_true, Bool.true_and, decide_true, List.length_cons, List.length_nil, decide_eq_true_eq, Nat.zero_le, Nat.reduceLeDiff, Int.reduceLE, Int.reduceLT, Int.reducePow, Int.reduceNeg, Int.reduceToNat, ↓reduceIte, Bool.false_eq_true, Option.toList_some, Option.toList_none, List.append_nil, List.length_map, o_rev_t]
          exact ⟨_, _, _, rfl, .rev⟩
        simp only [mirS, List.all_cons, List.all_nil, Bool.and_true, Bool.true_and, decide_true, List.length_cons, List.length_nil, decide_eq_true_eq, Nat.zero_le, Nat.reduceLeDiff, Int.reduceLE, Int.reduceLT, Int.reducePow, Int.reduceNeg, Int.reduceToNat, ↓reduceIte, Bool.false_eq_true, Option.toList_some, Option.toList_none, List.append_nil, List.length_map]
        refine ok_cases (fun h => ?_) fun g4 => ?_
        · have cm : pCut (.tuple xs) (some a) (some (a + 1)) = .ok (.tuple ((xs.drop a.toNat).take 1)) := by
            by_cases hal : a + 1 ≤ xs.length
            · rw [cut_mid_t ha0 (by omega) (by omega), e1, Nat.add_sub_cancel_left]
            · show Res.ok (PyData.tuple (cutL xs (loOf xs.length (some a)) (hiOf xs.length (some (a + 1))))) = _
              have ea : a.toNat = xs.length := by omega
              have e2 : loOf xs.length (some a) = xs.length := by
                show (if 0 ≤ a then min a.toNat xs.length else (a + xs.length).toNat) = _
                rw [if_pos ha0]
                omega
              unfold cutL
              rw [e2, ea, List.drop_length, List.take_nil, List.take_nil]
          simp only [mirS, List.all_cons, List.all_nil, Bool.and_true, Bool.true_and, decide_true, List.length_cons, List.length_nil, decide_eq_true_eq, Nat.zero_le, Nat.reduceLeDiff, Int.reduceLE, Int.reduceLT, Int.reducePow, Int.reduceNeg, Int.reduceToNat, ↓reduceIte, Bool.false_eq_true, Option.toList_some, Option.toList_none, List.append_nil, List.length_map, cut_hi_t (xs := xs) (j := a) ha0, cm, cut_lo_t (xs := xs) (j := a) ha0, pAdd_t (xs := xs.take a.toNat) (ys := (xs.drop a.toNat).take 1) (by rw [List.length_take, List.length_take, List.length_drop]; omega), pAdd_t (xs := xs.take a.toNat ++ (xs.drop a.toNat).take 1) (ys := xs.drop a.toNat) (by rw [List.length_append, List.length_take, List.length_take, List.length_drop]; omega)]
          exact ⟨_, _, _, rfl, .twice a.toNat⟩
        simp only [mirS, List.all_cons, List.all_nil, Bool.and_true, Bool.true_and, decide_true, List.length_cons, List.length_nil, decide_eq_true_eq, Nat.zero_le, Nat.reduceLeDiff, Int.reduceLE, Int.reduceLT, Int.reducePow, Int.reduceNeg, Int.reduceToNat, ↓reduceIte, Bool.false_eq_true, Option.toList_some, Option.toList_none, List.append_nil, List.length_map, List.map_cons, List.map_nil, List.cons_append, List.nil_append, Nat.reduceSub, List.replicate]
        refine (oddR_ok (n := n + k + 1) ho hd (by omega) (by omega)).mono ?_
        rintro _ ⟨y, s4, l4, rfl, q7, q8, hy⟩
        obtain ⟨r, er, hr⟩ := menu_D [y, .tuple [.tuple xs]] (v := v - 5) (P := fun y => BentR (.tuple xs) y) (by
          intro z hz
          simp only [List.mem_cons, List.not_mem_nil, or_false] at hz
          rcases hz with rfl | rfl
          · exact .odd hy
          · exact .in1) (by omega) (by simp only [List.length_cons, List.length_nil]; omega)
        simp only [mirS, List.all_cons, List.all_nil, Bool.and_true, Bool.true_and, decide_true, List.length_cons, List.length_nil, decide_eq_true_eq, Nat.zero_le, Nat.reduceLeDiff, Int.reduceLE, Int.reduceLT, Int.reducePow, Int.reduceNeg, Int.reduceToNat, ↓reduceIte, Bool.false_eq_true, Option.toList_some, Option.toList_none, List.append_nil, List.length_map, List.map_cons, List.map_nil, List.cons_append, List.nil_append, Nat.reduceSub, List.replicate, er]
        exact ⟨_, _, _, rfl, hr⟩
      unfold bentD at ways
      simp only [List.drop_succ_cons, List.drop_zero] at ways
      cases he : xs.isEmpty with
      | true =>
        simp only [mirS, List.all_cons, List.all_nil, Bool.and_true, Bool.true_and, decide_true, List.length_cons, List.length_nil, decide_eq_true_eq, Nat.zero_le, Nat.reduceLeDiff, Int.reduceLE, Int.reduceLT, Int.reducePow, Int.reduceNeg, Int.reduceToNat, ↓reduceIte, Bool.false_eq_true, Option.toList_some, Option.toList_none, List.append_nil, List.length_map, List.map_cons, List.map_nil, List.cons_append, List.nil_append, Nat.reduceSub, List.replicate, o_inst, isK, o_ne_tnil, he, Bool.not_true]
        simp only [mirS, List.all_cons, List.all_nil, Bool.and_true, Bool.true_and, decide_true, List.length_cons, List.length_nil, decide_eq_true_eq, Nat.zero_le, Nat.reduceLeDiff, Int.reduceLE, Int.reduceLT, Int.reducePow, Int.reduceNeg, Int.reduceToNat, ↓reduceIte, Bool.false_eq_true, Option.toList_some, Option.toList_none, List.append_nil, List.length_map, List.map_cons, List.map_nil, List.cons_append, List.nil_append, Nat.reduceSub, List.replicate] at ways
        exact ways s l (by omega) (by omega)
      | false =>
        have lp : 0 < xs.length := by
          cases xs with
          | nil => cases he
          | cons x xs => simp
        simp only [mirS, List.all_cons, List.all_nil, Bool.and_true, Bool.true_and, decide_true, List.length_cons, List.length_nil, decide_eq_true_eq, Nat.zero_le, Nat.reduceLeDiff, Int.reduceLE, Int.reduceLT, Int.reducePow, Int.reduceNeg, Int.reduceToNat, ↓reduceIte, Bool.false_eq_true, Option.toList_some, Option.toList_none, List.append_nil, List.length_map, List.map_cons, List.map_nil, List.cons_append, List.nil_append, Nat.reduceSub, List.replicate, o_inst, isK, o_ne_tnil, he, Bool.not_false]
        refine (d3 hd (by omega) (by omega) (by decide) (by decide)).mono ?_
        rintro _ ⟨v, s1, l1, rfl, hv0, hv1, q1, q2⟩
        simp only [mirS, List.all_cons, List.all_nil, Bool.and_true, Bool.true_and, decide_true, List.length_cons, List.length_nil, decide_eq_true_eq, Nat.zero_le, Nat.reduceLeDiff, Int.reduceLE, Int.reduceLT, Int.reducePow, Int.reduceNeg, Int.reduceToNat, ↓reduceIte, Bool.false_eq_true, Option.toList_some, Option.toList_none, List.append_nil, List.length_map]
        refine ok_cases (fun h => ?_) fun h => ?_
        · simp only [mirS, List.all_cons, List.all_nil, Bool.and_true, Bool.true_and, decide_true, List.length_cons, List.length_nil, decide_eq_true_eq, Nat.zero_le, Nat.reduceLeDiff, Int.reduceLE, Int.reduceLT, Int.reducePow, Int.reduceNeg, Int.reduceToNat, ↓reduceIte, Bool.false_eq_true, Option.toList_some, Option.toList_none, List.append_nil, List.length_map]
          refine (d3 hd (by omega) (by omega) (by omega) (by omega)).mono ?_
          rintro _ ⟨a, s2, l2, rfl, ha0, ha1, q3, q4⟩
          have hat : a.toNat < xs.length := by omega
          have e1 : (a + 1).toNat = a.toNat + 1 := by omega
          have ex : prim .idx [.tuple xs, .int a] = .ok xs[a.toNat] := o_idx_t ha0 (List.getElem?_eq_getElem hat)
          have hmem := List.getElem_mem hat
          have hnx := (niceL_mem hxs _ hmem).exact
          have hnn := nodesL_at hat
          have hnod := hxs.nod
          simp only [mirS, List.all_cons, List.all_nil, Bool.and_true, Bool.true_and, decide_true, List.length_cons, List.length_nil, decide_eq_true_eq, Nat.zero_le, Nat.reduceLeDiff, Int.reduceLE, Int.reduceLT, Int.reducePow, Int.reduceNeg, Int.reduceToNat, ↓reduceIte, Bool.false_eq_true, Option.toList_some, Option.toList_none, List.append_nil, List.length_map, List.map_cons, List.map_nil, List.cons_append, List.nil_append, Nat.reduceSub, List.replicate, cut_hi_t (xs := xs) (j := a) ha0, ex]
          refine ((ih n (nodes xs[a.toNat]) xs[a.toNat] s2 l2 (by omega) (by omega) (by omega) (by omega) hnx)).mono ?_
          rintro _ ⟨y, s3, l3, rfl, hy⟩
          simp only [mirS, List.all_cons, List.all_nil, Bool.and_true, Bool.true_and, decide_true, List.length_cons, List.length_nil, decide_eq_true_eq, Nat.zero_le, Nat.reduceLeDiff, Int.reduceLE, Int.reduceLT, Int.reducePow, Int.reduceNeg, Int.reduceToNat, ↓reduceIte, Bool.false_eq_true, Option.toList_some, Option.toList_none, List.append_nil, List.length_map, List.map_cons, List.map_nil, List.cons_append, List.nil_append, Nat.reduceSub, List.replicate, pAdd_t1 hl, cut_lo_t (xs := xs) (j := a + 1) (by omega), e1, pAdd_t3 hl]
          exact ⟨_, _, _, rfl, .at_ hat hy⟩
        · simp only [mirS, List.all_cons, List.all_nil, Bool.and_true, Bool.true_and, decide_true, List.length_cons, List.length_nil, decide_eq_true_eq, Nat.zero_le, Nat.reduceLeDiff, Int.reduceLE, Int.reduceLT, Int.reducePow, Int.reduceNeg, Int.reduceToNat, ↓reduceIte, Bool.false_eq_true, Option.toList_some, Option.toList_none, List.append_nil, List.length_map, List.map_cons, List.map_nil, List.cons_append, List.nil_append, Nat.reduceSub, List.replicate, o_inst, isK, Bool.not_true]
          simp only [mirS, List.all_cons, List.all_nil, Bool.and_true, Bool.true_and, decide_true, List.length_cons, List.length_nil, decide_eq_true_eq, Nat.zero_le, Nat.reduceLeDiff, Int.reduceLE, Int.reduceLT, Int.reducePow, Int.reduceNeg, Int.reduceToNat, ↓reduceIte, Bool.false_eq_true, Option.toList_some, Option.toList_none, List.append_nil, List.length_map, List.map_cons, List.map_nil, List.cons_append, List.nil_append, Nat.reduceSub, List.replicate] at ways
          exact ways s1 l1 (by omega) (by omega)
    · have hnt : isK .tuple x = false := by simpa using hK
      exact bentR0 (n := n + k + 1) hB hd hw ho h0 (by omega) hnt
/-- all of it: what it is made of, its size -/
theorem bentA_ok (hB : T[b]? = some (bentD d w o b)) (hd : T[d]? = some drawD3) (hw : T[w]? = some wholeD) (ho : T[o]? = some (oddD d)) (k n m q : Nat) (x : D) (s l : Int) (h0 : 0 ≤ s) (h1 : s + 4 * (k + 1) < 2 ^ 29) (hm : m ≤ 380) (hq : 130 ≤ q) (hq2 : q ≤ 1900) (hk : k ≤ 50) (hx : Nice x k m) (ht : top x ≤ q) :
    Ok (callF T M (n + k + 3) b [tp ns s l, x]) fun p => ∃ y s' l', p = (y, [tp ns s' l']) ∧ s ≤ s' ∧ s' ≤ s + 4 * (k + 1) ∧ Nice y (k + 2) (2 * m + 8) ∧ top y ≤ q + 1 ∧ BentR x y := by
  refine ((bent3_ok hB hd hw ho k n m q x s l h0 h1 hm hq hq2 hk hx ht).and (bentR_ok hB hd hw ho k n m x s l h0 h1 hm hk hx)).mono ?_
  rintro _ ⟨⟨y, s', l', rfl, a1, a2, a3, a4⟩, y', s'', l'', e, a5⟩
  cases e
  exact ⟨y, s', l', rfl, a1, a2, a3, a4, a5⟩
end
/-! ### the widest tuple within -/
mutual
def fat : D → Nat
  | .list xs => max xs.length (fatL xs)
  | .tuple xs => max xs.length (fatL xs)
  | _ => 0
def fatL : List D → Nat
  | [] => 0
  | x :: xs => max (fat x) (fatL xs)
end
theorem fatL_mem : ∀ {xs : List D} {x : D}, x ∈ xs → fat x ≤ fatL xs
  | y :: ys, x, h => by
    rw [fatL]
    rcases List.mem_cons.mp h with rfl | h
    · exact Nat.le_max_left ..
    · exact Nat.le_trans (fatL_mem h) (Nat.le_max_right ..)
theorem fatL_le : ∀ {xs : List D} {b : Nat}, (∀ x ∈ xs, fat x ≤ b) → fatL xs ≤ b
  | [], b, _ => by simp [fatL]
  | x :: xs, b, h => by
    rw [fatL]
    exact Nat.max_le.mpr ⟨h x (List.mem_cons_self ..), fatL_le fun y hy => h y (List.mem_cons_of_mem _ hy)⟩
theorem fat_tup {xs : List D} {b : Nat} : fat (.tuple xs) ≤ b ↔ xs.length ≤ b ∧ ∀ x ∈ xs, fat x ≤ b := by
  simp only [fat]
  exact ⟨fun h => ⟨by omega, fun x hx => Nat.le_trans (fatL_mem hx) (by omega)⟩, fun h => Nat.max_le.mpr ⟨h.1, fatL_le h.2⟩⟩
theorem fat_odds : ∀ x ∈ odds, fat x ≤ 2 := by
  intro x hx
  have : odds.all (fun x => decide (fat x ≤ 2)) = true := by decide +kernel
  exact of_decide_eq_true (List.all_eq_true.mp this x hx)
theorem BentR.fat {x y : D} (h : BentR x y) : ∀ {b : Nat}, 2 ≤ b → Mir.P.fat x ≤ b → Mir.P.fat y ≤ b + 1 := by
  induction h with
  | @at_ xs a y h _ ih =>
    intro b hb hx
    obtain ⟨h1, h2⟩ := fat_tup.mp hx
    have hy := ih hb (h2 _ (List.getElem_mem h))
    refine fat_tup.mpr ⟨?_, fun z hz => ?_⟩
    · rw [List.length_append, List.length_append, List.length_take, List.length_drop, List.length_singleton]
      omega
    · rcases List.mem_append.mp hz with hz | hz
      · rcases List.mem_append.mp hz with hz | hz
        · exact Nat.le_succ_of_le (h2 z (List.mem_of_mem_take hz))
        · cases List.mem_singleton.mp hz
          exact hy
      · exact Nat.le_succ_of_le (h2 z (List.mem_of_mem_drop hz))
  | up => intro b hb _; simp [Mir.P.fat]
  | down => intro b hb _; simp [Mir.P.fat]
  | one => intro b hb _; simp [Mir.P.fat]
  | odd h =>
    intro b hb _
    have := fat_odds _ h
    omega
  | lst =>
    intro b hb hx
    simp only [Mir.P.fat] at hx ⊢
    omega
  | @out xs a =>
    intro b hb hx
    obtain ⟨h1, h2⟩ := fat_tup.mp hx
    refine fat_tup.mpr ⟨?_, fun z hz => ?_⟩
    · rw [List.length_append, List.length_take, List.length_drop]
      omega
    · rcases List.mem_append.mp hz with hz | hz
      · exact Nat.le_succ_of_le (h2 z (List.mem_of_mem_take hz))
      · exact Nat.le_succ_of_le (h2 z (List.mem_of_mem_drop hz))
  | @put xs y a hy =>
    intro b hb hx
    obtain ⟨h1, h2⟩ := fat_tup.mp hx
    have := fat_odds _ hy
    refine fat_tup.mpr ⟨?_, fun z hz => ?_⟩
    · rw [List.length_append, List.length_append, List.length_take, List.length_drop, List.length_singleton]
      omega
    · rcases List.mem_append.mp hz with hz | hz
      · rcases List.mem_append.mp hz with hz | hz
        · exact Nat.le_succ_of_le (h2 z (List.mem_of_mem_take hz))
        · cases List.mem_singleton.mp hz
          omega
      · exact Nat.le_succ_of_le (h2 z (List.mem_of_mem_drop hz))
  | rev =>
    intro b hb hx
    obtain ⟨h1, h2⟩ := fat_tup.mp hx
    refine fat_tup.mpr ⟨by rw [List.length_reverse]; omega, fun z hz => Nat.le_succ_of_le (h2 z (List.mem_reverse.mp hz))⟩
  | @twice xs a =>
    intro b hb hx
    obtain ⟨h1, h2⟩ := fat_tup.mp hx
    refine fat_tup.mpr ⟨?_, fun z hz => ?_⟩
    · rw [List.length_append, List.length_append, List.length_take, List.length_drop, List.length_take, List.length_drop]
      omega
    · rcases List.mem_append.mp hz with hz | hz
      · rcases List.mem_append.mp hz with hz | hz
        · exact Nat.le_succ_of_le (h2 z (List.mem_of_mem_take hz))
        · exact Nat.le_succ_of_le (h2 z (List.mem_of_mem_drop (List.mem_of_mem_take hz)))
      · exact Nat.le_succ_of_le (h2 z (List.mem_of_mem_drop hz))
  | in1 =>
    intro b hb hx
    refine fat_tup.mpr ⟨by simp, fun z hz => ?_⟩
    cases List.mem_singleton.mp hz
    exact Nat.le_succ_of_le hx
end Mir.P
/-! Mir, part Pair: pairings by size, ties with weights. -/
namespace Mir.P
open PySem
set_option maxHeartbeats 2000000
abbrev Seq := Nat → Int
/-- one size on -/
def on1 (f : Seq) : Seq
  | 0 => 0
  | k + 1 => f k
abbrev Use := Nat → Bool
def ins (U : Use) (i j : Nat) : Use := fun v => U v || decide (v = i) || decide (v = j)
abbrev WTie := Int × Nat × Nat
/-- the pairings of some ties without used places, by size, each as its weights' product -/
def WW : List WTie → Use → Seq
  | [], _, k => if k = 0 then 1 else 0
  | (c, i, j) :: ts, U, k => WW ts U k + cond (U i || U j) 0 (c * on1 (WW ts (ins U i j)) k)
theorem ins_comm (U : Use) (i j a b : Nat) : ins (ins U i j) a b = ins (ins U a b) i j := by
  funext v
  unfold ins
  cases U v <;> cases decide (v = i) <;> cases decide (v = j) <;> cases decide (v = a) <;> cases decide (v = b) <;> rfl
theorem on1_add (f g : Seq) (k : Nat) : on1 (fun k => f k + g k) k = on1 f k + on1 g k := by
  cases k <;> simp [on1]
theorem on1_mul (c : Int) (f : Seq) (k : Nat) : on1 (fun k => c * f k) k = c * on1 f k := by
  cases k <;> simp [on1]
theorem on1_zero (k : Nat) : on1 (fun _ => 0) k = 0 := by
  cases k <;> simp [on1]
theorem on1_ext {f g : Seq} (h : ∀ k, f k = g k) (k : Nat) : on1 f k = on1 g k := by
  cases k with
  | zero => rfl
  | succ k => exact h k
/-- the second part of a step -/
def tk1 (c : Int) (i j : Nat) (U : Use) (f : Use → Seq) : Seq := fun k => cond (U i || U j) 0 (c * on1 (f (ins U i j)) k)
theorem WW_cons (c : Int) (i j : Nat) (ts : List WTie) (U : Use) (k : Nat) : WW ((c, i, j) :: ts) U k = WW ts U k + tk1 c i j U (WW ts) k := rfl
theorem tk1_add (c : Int) (i j : Nat) (U : Use) (f g : Use → Seq) (k : Nat) : tk1 c i j U (fun U k => f U k + g U k) k = tk1 c i j U f k + tk1 c i j U g k := by
  unfold tk1
  cases U i || U j
  · show c * _ = c * _ + c * _
    rw [on1_add, Int.mul_add]
  · rfl
theorem tk1_ext {c : Int} {i j : Nat} {U : Use} {f g : Use → Seq} (h : ∀ U k, f U k = g U k) (k : Nat) : tk1 c i j U f k = tk1 c i j U g k := by
  unfold tk1
  rw [on1_ext (h _)]
theorem ins_at (U : Use) (i j v : Nat) : ins U i j v = (U v || decide (v = i) || decide (v = j)) := rfl
def ov (i j a b : Nat) : Bool := decide (a = i) || decide (a = j) || decide (b = i) || decide (b = j)
theorem ov_sym (i j a b : Nat) : ov i j a b = ov a b i j := by
  unfold ov
  rw [Bool.eq_iff_iff]
  simp only [Bool.or_eq_true, decide_eq_true_eq]
  omega
theorem free2 (U : Use) (i j a b : Nat) : (ins U i j a || ins U i j b) = ((U a || U b) || ov i j a b) := by
  unfold ins ov
  cases U a <;> cases U b <;> cases decide (a = i) <;> cases decide (a = j) <;> cases decide (b = i) <;> cases decide (b = j) <;> rfl
theorem tk1_comm (c : Int) (i j : Nat) (d : Int) (a b : Nat) (U : Use) (f : Use → Seq) (k : Nat) : tk1 c i j U (fun U => tk1 d a b U f) k = tk1 d a b U (fun U => tk1 c i j U f) k := by
  unfold tk1
  dsimp only
  rw [free2, free2, ins_comm U i j a b, ov_sym i j a b]
  have z : ∀ k, on1 (fun _ => 0) k = 0 := on1_zero
  have m1 := on1_mul d (on1 (f (ins (ins U a b) i j))) k
  have m2 := on1_mul c (on1 (f (ins (ins U a b) i j))) k
  cases U i || U j <;> cases U a || U b <;> cases ov a b i j <;> simp only [Bool.or_true, Bool.or_false, Bool.true_or, Bool.false_or, cond_true, cond_false, z, Int.mul_zero]
  rw [m1, m2]
  grind
theorem WW_swap (x y : WTie) (ts : List WTie) (U : Use) (k : Nat) : WW (x :: y :: ts) U k = WW (y :: x :: ts) U k := by
  obtain ⟨c, i, j⟩ := x
  obtain ⟨d, a, b⟩ := y
  rw [WW_cons, WW_cons, WW_cons, WW_cons]
  have h1 : tk1 c i j U (WW ((d, a, b) :: ts)) k = tk1 c i j U (WW ts) k + tk1 c i j U (fun U => tk1 d a b U (WW ts)) k := tk1_add ..
  have h2 : tk1 d a b U (WW ((c, i, j) :: ts)) k = tk1 d a b U (WW ts) k + tk1 d a b U (fun U => tk1 c i j U (WW ts)) k := tk1_add ..
  rw [h1, h2, tk1_comm]
  grind
theorem WW_perm {ts us : List WTie} (p : ts.Perm us) : ∀ U k, WW ts U k = WW us U k := by
  induction p with
  | nil => intro U k; rfl
  | cons x p ih =>
    obtain ⟨c, i, j⟩ := x
    intro U k
    rw [WW_cons, WW_cons, ih, tk1_ext ih]
  | swap x y l => intro U k; exact WW_swap _ _ _ _ _
  | trans p q ih1 ih2 => intro U k; rw [ih1, ih2]
/-- a tie with a weight and the same one with its opposite -/
theorem WW_cancel (c : Int) (i j : Nat) (ts : List WTie) (U : Use) (k : Nat) : WW ((c, i, j) :: (-c, i, j) :: ts) U k = WW ts U k := by
  rw [WW_cons, WW_cons]
  have h : tk1 c i j U (WW ((-c, i, j) :: ts)) k = tk1 c i j U (WW ts) k := by
    unfold tk1
    congr 2
    refine on1_ext (fun k => ?_) k
    rw [WW_cons]
    have : tk1 (-c) i j (ins U i j) (WW ts) k = 0 := by
      unfold tk1
      have e : (ins U i j i || ins U i j j) = true := by simp [ins_at]
      rw [e]
      rfl
    rw [this, Int.add_zero]
  rw [h]
  unfold tk1
  cases U i || U j
  · simp only [cond_false]
    grind
  · simp only [cond_true]
    omega

/-! ### all ties -/
/-- the ties of v with some -/
def star (v : Nat) (ws : List Nat) : List WTie := ws.map fun w => (1, v, w)
def sumL (f : Nat → Int) : List Nat → Int
  | [] => 0
  | w :: ws => f w + sumL f ws
theorem WW_star {v : Nat} {U : Use} (hv : U v = false) (rest : List WTie) (k : Nat) : ∀ ws : List Nat, WW (star v ws ++ rest) U k = WW rest U k + sumL (fun w => cond (U w) 0 (on1 (WW rest (ins U v w)) k)) ws
  | [] => by
    show WW rest U k = _ + 0
    omega
  | w :: ws => by
    show WW ((1, v, w) :: (star v ws ++ rest)) U k = _
    rw [WW_cons, WW_star hv rest k ws]
    have h : tk1 1 v w U (WW (star v ws ++ rest)) k = cond (U w) 0 (on1 (WW rest (ins U v w)) k) := by
      unfold tk1
      rw [hv, Bool.false_or, Int.one_mul]
      cases U w
      · simp only [cond_false]
        refine on1_ext (fun k => ?_) k
        have blocked : ∀ us : List Nat, WW (star v us ++ rest) (ins U v w) k = WW rest (ins U v w) k := by
          intro us
          induction us with
          | nil => rfl
          | cons u us ih =>
            show WW ((1, v, u) :: (star v us ++ rest)) (ins U v w) k = _
            rw [WW_cons, ih]
            have : tk1 1 v u (ins U v w) (WW (star v us ++ rest)) k = 0 := by
              unfold tk1
              have e : (ins U v w v || ins U v w u) = true := by simp [ins_at]
              rw [e]
              rfl
            rw [this, Int.add_zero]
        exact blocked ws
      · rfl
    rw [h]
    show _ = _ + (_ + _)
    grind
theorem WW_used {v : Nat} {U : Use} (hv : U v = true) (rest : List WTie) (k : Nat) : ∀ ws : List Nat, WW (star v ws ++ rest) U k = WW rest U k
  | [] => rfl
  | w :: ws => by
    show WW ((1, v, w) :: (star v ws ++ rest)) U k = _
    rw [WW_cons, WW_used hv rest k ws]
    have : tk1 1 v w U (WW (star v ws ++ rest)) k = 0 := by
      unfold tk1
      rw [hv, Bool.true_or]
      rfl
    rw [this, Int.add_zero]
/-- all ties of some places -/
def cl : List Nat → List WTie
  | [] => []
  | v :: vs => star v vs ++ cl vs
/-- how many pairings of k ties all ties of n places have -/
def fullN : Nat → Nat → Int
  | _, 0 => 1
  | 0, _ + 1 => 0
  | 1, _ + 1 => 0
  | n + 2, k + 1 => fullN (n + 1) (k + 1) + ((n : Int) + 1) * fullN n k
theorem fullN_z (n : Nat) : fullN n 0 = 1 := by
  cases n with
  | zero => rfl
  | succ n => cases n <;> rfl
def freeN (U : Use) (vs : List Nat) : Nat := vs.countP fun v => !U v
theorem freeN_ins {U : Use} {v w : Nat} : ∀ {vs : List Nat}, vs.Nodup → v ∉ vs → w ∈ vs → U w = false → freeN (ins U v w) vs + 1 = freeN U vs
  | u :: us, hn, hv, hw, hU => by
    unfold freeN
    rw [List.countP_cons, List.countP_cons]
    have hn' := List.nodup_cons.mp hn
    have hvu : v ≠ u := fun e => hv (e ▸ List.mem_cons_self ..)
    have hvs : v ∉ us := fun e => hv (List.mem_cons_of_mem _ e)
    by_cases e : w = u
    · subst e
      have same : us.countP (fun x => !ins U v w x) = us.countP fun x => !U x := by
        refine List.countP_congr fun x hx => ?_
        have h1 : x ≠ v := fun z => hvs (z ▸ hx)
        have h2 : x ≠ w := fun z => hn'.1 (z ▸ hx)
        rw [ins_at, decide_eq_false h1, decide_eq_false h2, Bool.or_false, Bool.or_false]
      rw [same]
      have e1 : ins U v w w = true := by simp [ins_at]
      rw [e1, hU]
      simp
    · have hw' : w ∈ us := (List.mem_cons.mp hw).resolve_left e
      have ih := freeN_ins hn'.2 hvs hw' hU
      unfold freeN at ih
      have e1 : ins U v w u = U u := by
        rw [ins_at, decide_eq_false (Ne.symm hvu), decide_eq_false (Ne.symm e), Bool.or_false, Bool.or_false]
      rw [e1]
      omega
theorem sumL_free {U : Use} {c : Int} {f : Nat → Int} : ∀ {ws : List Nat}, (∀ w ∈ ws, U w = false → f w = c) → sumL (fun w => cond (U w) 0 (f w)) ws = (freeN U ws : Int) * c
  | [], _ => by
    show 0 = ((0 : Nat) : Int) * c
    simp
  | w :: ws, h => by
    have ih := sumL_free (ws := ws) fun x hx => h x (List.mem_cons_of_mem _ hx)
    show cond (U w) 0 (f w) + sumL _ ws = _
    rw [ih]
    unfold freeN
    rw [List.countP_cons]
    cases hU : U w with
    | true => simp
    | false =>
      rw [h w (List.mem_cons_self ..) hU]
      simp only [cond_false, Bool.not_false, if_true, Int.natCast_add]
      grind
theorem WW_full : ∀ (vs : List Nat), vs.Nodup → ∀ (U : Use) (k : Nat), WW (cl vs) U k = fullN (freeN U vs) k
  | [], _, U, k => by
    cases k <;> rfl
  | v :: vs, hn, U, k => by
    have hn' := List.nodup_cons.mp hn
    show WW (star v vs ++ cl vs) U k = _
    have ef : freeN U (v :: vs) = freeN U vs + (if U v = true then 0 else 1) := by
      unfold freeN
      rw [List.countP_cons]
      cases U v <;> simp
    cases hv : U v with
    | true =>
      rw [WW_used hv, WW_full vs hn'.2, ef, hv]
      rfl
    | false =>
      rw [WW_star hv, WW_full vs hn'.2, ef, hv]
      have e : sumL (fun w => cond (U w) 0 (on1 (WW (cl vs) (ins U v w)) k)) vs = (freeN U vs : Int) * on1 (fullN (freeN U vs - 1)) k := by
        refine sumL_free fun w hw hU => ?_
        refine on1_ext (fun k => ?_) k
        rw [WW_full vs hn'.2]
        have := freeN_ins hn'.2 hn'.1 hw hU
        rw [show freeN (ins U v w) vs = freeN U vs - 1 by omega]
      rw [e]
      simp only [Bool.false_eq_true, if_false]
      generalize freeN U vs = n
      cases k with
      | zero =>
        show _ + _ * 0 = _
        rw [fullN_z, fullN_z]
        omega
      | succ k =>
        show fullN n (k + 1) + (n : Int) * fullN (n - 1) k = _
        cases n with
        | zero =>
          show (0 : Int) + ((0 : Nat) : Int) * _ = 0
          simp
        | succ n => rfl

/-! ### the rest of a web -/
def oneW (ts : Ties) : List WTie := ts.map fun p => (1, p.1, p.2)
def negW (ts : Ties) : List WTie := ts.map fun p => (-1, p.1, p.2)
/-- how many pairings of each size some ties have, without used places -/
def W (ts : Ties) (U : Use) : Seq := WW (oneW ts) U
theorem W_cons (p : Nat × Nat) (ts : Ties) (U : Use) (k : Nat) : W (p :: ts) U k = W ts U k + cond (U p.1 || U p.2) 0 (on1 (W ts (ins U p.1 p.2)) k) := by
  show WW ((1, p.1, p.2) :: oneW ts) U k = _
  rw [WW_cons]
  unfold tk1
  rw [Int.one_mul]
  rfl
/-- what the row of the rest is by the row alone -/
def restS (w : Seq) (n : Nat) : Seq := fun k => sumN (fun j => (-1) ^ j * w j * fullN (n - 2 * j) (k - j)) (k + 1)
theorem freeN_ins2 {U : Use} {a b : Nat} {vs : List Nat} (hn : vs.Nodup) (ha : a ∈ vs) (hb : b ∈ vs) (hab : a ≠ b) (hUa : U a = false) (hUb : U b = false) : freeN (ins U a b) vs = freeN U vs - 2 := by
  induction vs with
  | nil => cases ha
  | cons u us ih =>
    have hn' := List.nodup_cons.mp hn
    have ec : ∀ V : Use, freeN V (u :: us) = freeN V us + (if V u = true then 0 else 1) := fun V => by
      unfold freeN
      rw [List.countP_cons]
      cases V u <;> simp
    have skip : ∀ x : Nat, x ∉ us → ∀ (V : Use) (y : Nat), y ∈ us → V y = false → freeN (ins V x y) us + 1 = freeN V us := fun x hx V y hy hV => freeN_ins hn'.2 hx hy hV
    rw [ec, ec]
    by_cases e1 : a = u
    · subst e1
      have hb' : b ∈ us := (List.mem_cons.mp hb).resolve_left (Ne.symm hab)
      have h1 := skip a hn'.1 U b hb' hUb
      have e2 : ins U a b a = true := by simp [ins_at]
      rw [e2, hUa]
      simp only [if_true, Bool.false_eq_true, if_false]
      omega
    · by_cases e2 : b = u
      · subst e2
        have ha' : a ∈ us := (List.mem_cons.mp ha).resolve_left e1
        have sw : ins U a b = ins U b a := by
          funext v
          unfold ins
          cases U v <;> cases decide (v = a) <;> cases decide (v = b) <;> rfl
        have h1 := skip b hn'.1 U a ha' hUa
        rw [sw]
        have e3 : ins U b a b = true := by simp [ins_at]
        rw [e3, hUb]
        simp only [if_true, Bool.false_eq_true, if_false]
        omega
      · have ha' : a ∈ us := (List.mem_cons.mp ha).resolve_left e1
        have hb' : b ∈ us := (List.mem_cons.mp hb).resolve_left e2
        have h1 := ih hn'.2 ha' hb'
        have e3 : ins U a b u = U u := by
          rw [ins_at, decide_eq_false (Ne.symm e1), decide_eq_false (Ne.symm e2), Bool.or_false, Bool.or_false]
        rw [e3, h1]
        have two : 2 ≤ freeN U us := by
          obtain ⟨s, t, rfl⟩ := List.append_of_mem ha'
          unfold freeN
          rw [List.countP_append, List.countP_cons]
          rcases List.mem_append.mp hb' with hs | hs
          · have : 0 < s.countP fun v => !U v := List.countP_pos_iff.mpr ⟨b, hs, by simp [hUb]⟩
            simp [hUa]
            omega
          · have hs' : b ∈ t := (List.mem_cons.mp hs).resolve_left (Ne.symm hab)
            have : 0 < t.countP fun v => !U v := List.countP_pos_iff.mpr ⟨b, hs', by simp [hUb]⟩
            simp [hUa]
            omega
        split <;> omega
theorem WW_neg {vs : List Nat} (hn : vs.Nodup) : ∀ (ts : Ties), (∀ p ∈ ts, p.1 ∈ vs ∧ p.2 ∈ vs ∧ p.1 ≠ p.2) → ∀ (U : Use) (k : Nat), WW (negW ts ++ cl vs) U k = restS (W ts U) (freeN U vs) k
  | [], _, U, k => by
    show WW (cl vs) U k = _
    rw [WW_full vs hn]
    unfold restS
    rw [sumN_left]
    have : sumN (fun i => (-1) ^ (i + 1) * W [] U (i + 1) * fullN (freeN U vs - 2 * (i + 1)) (k - (i + 1))) k = 0 := by
      have z : ∀ i, (-1 : Int) ^ (i + 1) * W [] U (i + 1) * fullN (freeN U vs - 2 * (i + 1)) (k - (i + 1)) = 0 := fun i => by
        rw [show W [] U (i + 1) = 0 from rfl]
        simp
      have := sumN_more (f := fun i => (-1 : Int) ^ (i + 1) * W [] U (i + 1) * fullN (freeN U vs - 2 * (i + 1)) (k - (i + 1))) (n := 0) k (fun i _ => z i)
      rwa [Nat.zero_add] at this
    rw [this, show W [] U 0 = 1 from rfl]
    simp
  | p :: ts, hp, U, k => by
    obtain ⟨h1, h2, h3⟩ := hp p (List.mem_cons_self ..)
    have ih := WW_neg hn ts fun q hq => hp q (List.mem_cons_of_mem _ hq)
    show WW ((-1, p.1, p.2) :: (negW ts ++ cl vs)) U k = _
    rw [WW_cons, ih]
    unfold tk1
    cases hU : U p.1 || U p.2 with
    | true =>
      simp only [cond_true, Int.add_zero]
      unfold restS
      refine sumN_ext fun j _ => ?_
      rw [W_cons, hU]
      simp
    | false =>
      obtain ⟨u1, u2⟩ : U p.1 = false ∧ U p.2 = false := by
        cases e1 : U p.1 <;> cases e2 : U p.2 <;> simp [e1, e2] at hU <;> exact ⟨rfl, rfl⟩
      simp only [cond_false]
      rw [on1_ext (ih (ins U p.1 p.2)), freeN_ins2 hn h1 h2 h3 u1 u2]
      cases k with
      | zero =>
        show _ + -1 * 0 = _
        unfold restS
        show (0 + _) + -1 * 0 = 0 + _
        dsimp only
        rw [W_cons, hU]
        simp only [cond_false]
        show _ = 0 + (-1) ^ 0 * (W ts U 0 + 0) * _
        grind
      | succ k =>
        show restS (W ts U) (freeN U vs) (k + 1) + -1 * restS (W ts (ins U p.1 p.2)) (freeN U vs - 2) k = _
        unfold restS
        have e : sumN (fun j => (-1) ^ j * W (p :: ts) U j * fullN (freeN U vs - 2 * j) (k + 1 - j)) (k + 1 + 1) = sumN (fun j => (-1) ^ j * W ts U j * fullN (freeN U vs - 2 * j) (k + 1 - j) + (-1) ^ j * on1 (W ts (ins U p.1 p.2)) j * fullN (freeN U vs - 2 * j) (k + 1 - j)) (k + 1 + 1) := sumN_ext fun j _ => by
          rw [W_cons, hU]
          simp only [cond_false]
          grind
        have sadd : ∀ (f g : Nat → Int) (n : Nat), sumN (fun i => f i + g i) n = sumN f n + sumN g n := by
          intro f g n
          induction n with
          | zero => rfl
          | succ n ih =>
            show sumN _ n + (f n + g n) = (sumN f n + f n) + (sumN g n + g n)
            rw [ih]
            grind
        have smul : ∀ (c : Int) (f : Nat → Int) (n : Nat), c * sumN f n = sumN (fun i => c * f i) n := by
          intro c f n
          induction n with
          | zero => simp [sumN]
          | succ n ih =>
            show c * (sumN f n + f n) = sumN _ n + c * f n
            rw [← ih]
            grind
        rw [e, sadd]
        congr 1
        rw [sumN_left (fun j => (-1) ^ j * on1 (W ts (ins U p.1 p.2)) j * fullN (freeN U vs - 2 * j) (k + 1 - j)), smul]
        show _ = (-1) ^ 0 * 0 * _ + _
        rw [Int.mul_zero, Int.zero_mul, Int.zero_add]
        refine sumN_ext fun j _ => ?_
        show -1 * ((-1) ^ j * W ts (ins U p.1 p.2) j * fullN (freeN U vs - 2 - 2 * j) (k - j)) = (-1) ^ (j + 1) * W ts (ins U p.1 p.2) j * fullN (freeN U vs - 2 * (j + 1)) (k + 1 - (j + 1))
        rw [show freeN U vs - 2 * (j + 1) = freeN U vs - 2 - 2 * j by omega, show k + 1 - (j + 1) = k - j by omega, Int.pow_succ]
        grind
theorem WW_both (ts : Ties) (rest : List WTie) (U : Use) (k : Nat) : WW (negW ts ++ (oneW ts ++ rest)) U k = WW rest U k := by
  induction ts generalizing U k with
  | nil => rfl
  | cons p ts ih =>
    have pm : (negW (p :: ts) ++ (oneW (p :: ts) ++ rest)).Perm ((1, p.1, p.2) :: (-1, p.1, p.2) :: (negW ts ++ (oneW ts ++ rest))) := by
      show ((-1, p.1, p.2) :: (negW ts ++ ((1, p.1, p.2) :: (oneW ts ++ rest)))).Perm _
      exact ((List.Perm.cons _ List.perm_middle).trans (List.Perm.swap ..))
    rw [WW_perm pm]
    have := WW_cancel 1 p.1 p.2 (negW ts ++ (oneW ts ++ rest)) U k
    rw [this, ih]

theorem rowT_nodup (m i : Nat) : (rowT m i).Nodup := by
  unfold rowT
  refine List.Pairwise.map _ ?_ List.nodup_range
  intro a b h e
  have := congrArg Prod.snd e
  dsimp only at this
  omega
theorem rows_nodup (m : Nat) : ∀ k, ((List.range k).flatMap (rowT m)).Nodup
  | 0 => by simp
  | k + 1 => by
    rw [flatMap_succ]
    refine List.nodup_append.mpr ⟨rows_nodup m k, rowT_nodup m k, fun p hp q hq e => ?_⟩
    obtain ⟨i, hi, hp⟩ := List.mem_flatMap.mp hp
    have h1 := (rowT_mem hp).1
    have h2 := (rowT_mem hq).1
    have := List.mem_range.mp hi
    subst e
    omega
theorem fullT_nodup (m : Nat) : (fullT m).Nodup := rows_nodup m m
theorem cl_from (m : Nat) : ∀ (n i : Nat), i + n = m → cl (List.range' i n) = oneW ((List.range' i n).flatMap (rowT m))
  | 0, i, _ => rfl
  | n + 1, i, h => by
    rw [List.range'_succ, List.flatMap_cons]
    show star i (List.range' (i + 1) n) ++ cl (List.range' (i + 1) n) = _
    rw [cl_from m n (i + 1) (by omega)]
    unfold oneW
    rw [List.map_append]
    congr 1
    unfold star rowT
    rw [List.map_map, List.range'_eq_map_range, List.map_map, show m - (i + 1) = n by omega]
    rfl
theorem cl_range (m : Nat) : cl (List.range m) = oneW (fullT m) := by
  have := cl_from m m 0 (by omega)
  rw [← List.range_eq_range'] at this
  exact this
/-- the ties that are not there -/
def restT (m : Nat) (ts : Ties) : Ties := (fullT m).filter fun p => decide (p ∉ ts)
theorem web_nodup {m : Nat} {ts : Ties} (h : Web m ts) : ts.Nodup := h.nodup (fullT_nodup m)
theorem full_split {m : Nat} {ts : Ties} (h : Web m ts) : (fullT m).Perm (ts ++ restT m ts) := by
  have h1 : (fullT m).Perm ((fullT m).filter (fun p => decide (p ∈ ts)) ++ (fullT m).filter (fun p => !decide (p ∈ ts))) := (List.filter_append_perm _ _).symm
  have h2 : ((fullT m).filter fun p => decide (p ∈ ts)).Perm ts := (List.perm_ext_iff_of_nodup ((fullT_nodup m).filter _) (web_nodup h)).mpr fun p => by
    rw [List.mem_filter, decide_eq_true_eq]
    exact ⟨fun z => z.2, fun z => ⟨h.subset z, z⟩⟩
  have h3 : (fullT m).filter (fun p => !decide (p ∈ ts)) = restT m ts := by
    unfold restT
    congr 1
    funext p
    by_cases hp : p ∈ ts <;> simp [hp]
  rw [h3] at h1
  exact h1.trans (h2.append_right _)
def U0 : Use := fun _ => false
theorem freeN_U0 (vs : List Nat) : freeN U0 vs = vs.length := by
  unfold freeN U0
  simp
/-- the pairings of the rest, by those of the web -/
theorem rest_row {m : Nat} {ts : Ties} (h : Web m ts) (k : Nat) : W (restT m ts) U0 k = restS (W ts U0) m k := by
  have h1 := WW_neg (List.nodup_range (n := m)) ts (fun p hp => by
    have := h.mem hp
    exact ⟨List.mem_range.mpr (by omega), List.mem_range.mpr (by omega), by omega⟩) U0 k
  rw [freeN_U0, List.length_range] at h1
  rw [← h1, cl_range]
  have pm : (negW ts ++ oneW (fullT m)).Perm (negW ts ++ (oneW ts ++ oneW (restT m ts))) := by
    refine List.Perm.append_left _ ?_
    unfold oneW
    rw [← List.map_append]
    exact (full_split h).map _
  rw [WW_perm pm, WW_both]
  rfl
/-! ### going through all pairings -/
def usedIn (u : List Nat) : Use := fun v => decide (v ∈ u)
def stepG (L : List (List Nat)) (p : Nat × Nat) : List (List Nat) := L ++ (L.filter fun u => decide (p.1 ∉ u) && decide (p.2 ∉ u)).map fun u => u ++ [p.1, p.2]
def gone (L : List (List Nat)) (ts : Ties) : List (List Nat) := ts.foldl stepG L
/-- s sizes on -/
def onK (s : Nat) (f : Seq) : Seq := fun k => if s ≤ k then f (k - s) else 0
def sumU (f : List Nat → Int) : List (List Nat) → Int
  | [] => 0
  | u :: us => f u + sumU f us
theorem sumU_app (f : List Nat → Int) : ∀ a b, sumU f (a ++ b) = sumU f a + sumU f b
  | [], b => by
    show sumU f b = 0 + sumU f b
    omega
  | x :: a, b => by
    show f x + sumU f (a ++ b) = (f x + sumU f a) + sumU f b
    rw [sumU_app f a b]
    omega
theorem usedIn_app (u : List Nat) (i j : Nat) : usedIn (u ++ [i, j]) = ins (usedIn u) i j := by
  funext v
  unfold usedIn ins
  rw [Bool.eq_iff_iff]
  simp only [Bool.or_eq_true, decide_eq_true_eq, List.mem_append, List.mem_cons, List.not_mem_nil, or_false]
  exact or_assoc.symm
theorem onK_on1 (s : Nat) (f : Seq) (k : Nat) : onK (s + 1) f k = onK s (on1 f) k := by
  unfold onK
  by_cases h : s + 1 ≤ k
  · rw [if_pos h, if_pos (by omega), show k - s = (k - (s + 1)) + 1 by omega]
    rfl
  · rw [if_neg h]
    by_cases h2 : s ≤ k
    · rw [if_pos h2, show k - s = 0 by omega]
      rfl
    · rw [if_neg h2]
theorem onK_add (s : Nat) (f g : Seq) (k : Nat) : onK s (fun k => f k + g k) k = onK s f k + onK s g k := by
  unfold onK
  split
  · rfl
  · rfl
theorem gone_step (p : Nat × Nat) (ts : Ties) (k : Nat) : ∀ L : List (List Nat), sumU (fun u => onK (u.length / 2) (W ts (usedIn u)) k) (stepG L p) = sumU (fun u => onK (u.length / 2) (W (p :: ts) (usedIn u)) k) L := by
  intro L
  unfold stepG
  rw [sumU_app]
  induction L with
  | nil => rfl
  | cons u L ih =>
    have e : onK (u.length / 2) (W (p :: ts) (usedIn u)) k = onK (u.length / 2) (W ts (usedIn u)) k + onK (u.length / 2) (fun k => cond (usedIn u p.1 || usedIn u p.2) 0 (on1 (W ts (ins (usedIn u) p.1 p.2)) k)) k := by
      rw [← onK_add]
      congr 1
      funext k
      exact W_cons p ts (usedIn u) k
    show (onK (u.length / 2) (W ts (usedIn u)) k + sumU _ L) + _ = onK (u.length / 2) (W (p :: ts) (usedIn u)) k + sumU _ L
    rw [e, List.filter_cons]
    by_cases h : p.1 ∉ u ∧ p.2 ∉ u
    · have c1 : (decide (p.1 ∉ u) && decide (p.2 ∉ u)) = true := by simp [h.1, h.2]
      have c2 : (usedIn u p.1 || usedIn u p.2) = false := by simp [usedIn, h.1, h.2]
      rw [c1, if_pos rfl, c2, List.map_cons]
      show _ + (onK ((u ++ [p.1, p.2]).length / 2) (W ts (usedIn (u ++ [p.1, p.2]))) k + sumU _ _) = _
      rw [usedIn_app, show (u ++ [p.1, p.2]).length / 2 = u.length / 2 + 1 by rw [List.length_append]; simp only [List.length_cons, List.length_nil]; omega, onK_on1]
      simp only [cond_false]
      have e2 : onK (u.length / 2) (fun k => on1 (W ts (ins (usedIn u) p.1 p.2)) k) k = onK (u.length / 2) (on1 (W ts (ins (usedIn u) p.1 p.2))) k := rfl
      rw [e2]
      omega
    · have c1 : (decide (p.1 ∉ u) && decide (p.2 ∉ u)) = false := by
        rw [Bool.and_eq_false_iff]
        by_cases h1 : p.1 ∉ u
        · exact .inr (decide_eq_false fun z => h ⟨h1, z⟩)
        · exact .inl (decide_eq_false h1)
      have c2 : (usedIn u p.1 || usedIn u p.2) = true := by
        unfold usedIn
        rw [Bool.or_eq_true, decide_eq_true_eq, decide_eq_true_eq]
        by_cases h1 : p.1 ∈ u
        · exact .inl h1
        · exact .inr (Classical.byContradiction fun z => h ⟨h1, z⟩)
      rw [c1, c2]
      simp only [Bool.false_eq_true, if_false, cond_true]
      have z : onK (u.length / 2) (fun _ => 0) k = 0 := by unfold onK; split <;> rfl
      rw [z]
      omega
theorem gone_sum (ts : Ties) (k : Nat) : ∀ L : List (List Nat), ((gone L ts).countP (fun u => decide (u.length / 2 = k)) : Int) = sumU (fun u => onK (u.length / 2) (W ts (usedIn u)) k) L := by
  induction ts with
  | nil =>
    intro L
    show (L.countP _ : Int) = _
    induction L with
    | nil => rfl
    | cons u L ih =>
      rw [List.countP_cons]
      show _ = onK (u.length / 2) (W [] (usedIn u)) k + sumU _ L
      rw [← ih]
      have e : onK (u.length / 2) (W [] (usedIn u)) k = if u.length / 2 = k then 1 else 0 := by
        unfold onK
        show (if _ then (if k - u.length / 2 = 0 then (1 : Int) else 0) else 0) = _
        (repeat' split) <;> omega
      rw [e]
      by_cases hu : u.length / 2 = k
      · simp [hu]
        omega
      · simp [hu]
  | cons p ts ih =>
    intro L
    show ((gone (stepG L p) ts).countP _ : Int) = _
    rw [ih, gone_step]
/-- the row by going through -/
theorem gone_row (ts : Ties) (k : Nat) : ((gone [[]] ts).countP (fun u => decide (u.length / 2 = k)) : Int) = W ts U0 k := by
  rw [gone_sum]
  show onK 0 (W ts (usedIn [])) k + 0 = _
  have e : usedIn [] = U0 := by
    funext v
    unfold usedIn U0
    simp
  unfold onK
  rw [if_pos (Nat.zero_le _), e, Nat.sub_zero, Int.add_zero]
end Mir.P
/-! Mir, part Fr: fractions in lowest terms, what polynomials are worth. -/
namespace Mir.P
open PySem
set_option maxHeartbeats 2000000
/-! ### lowest terms -/
def gc (t b : Int) : Int := ((Nat.gcd t.natAbs b.natAbs : Nat) : Int)
def lowN (t b : Int) : Int := t / gc t b
def lowB (t b : Int) : Int := b / gc t b
theorem gc_pos {t b : Int} (h : 0 < b) : 0 < gc t b := by
  unfold gc
  have : 0 < Nat.gcd t.natAbs b.natAbs := Nat.gcd_pos_of_pos_right _ (by omega)
  omega
theorem gc_dt {t b : Int} : gc t b ∣ t := Int.gcd_dvd_left ..
theorem gc_db {t b : Int} : gc t b ∣ b := Int.gcd_dvd_right ..
theorem lowN_mul {t b : Int} : lowN t b * gc t b = t := Int.ediv_mul_cancel gc_dt
theorem lowB_mul {t b : Int} : lowB t b * gc t b = b := Int.ediv_mul_cancel gc_db
theorem lowB_pos {t b : Int} (h : 0 < b) : 0 < lowB t b := by
  have h1 := lowB_mul (t := t) (b := b)
  have h2 := gc_pos (t := t) h
  by_cases hz : 0 < lowB t b
  · exact hz
  · have : lowB t b * gc t b ≤ 0 := Int.mul_nonpos_of_nonpos_of_nonneg (by omega) (by omega)
    omega
theorem low_cop {t b : Int} (h : 0 < b) : Nat.Coprime (lowN t b).natAbs (lowB t b).natAbs :=
  Int.gcd_ediv_gcd_ediv_gcd (Nat.gcd_pos_of_pos_right _ (by omega))
theorem low_eq {t b t' b' : Int} (h : 0 < b) (h' : 0 < b') (e : t * b' = t' * b) : lowN t b = lowN t' b' ∧ lowB t b = lowB t' b' := by
  have g1 := gc_pos (t := t) h
  have g2 := gc_pos (t := t') h'
  have c1 := low_cop (t := t) h
  have c2 := low_cop (t := t') h'
  have p1 := lowB_pos (t := t) h
  have p2 := lowB_pos (t := t') h'
  have x : lowN t b * lowB t' b' = lowN t' b' * lowB t b := by
    have e1 := lowN_mul (t := t) (b := b)
    have e2 := lowB_mul (t := t) (b := b)
    have e3 := lowN_mul (t := t') (b := b')
    have e4 := lowB_mul (t := t') (b := b')
    generalize lowN t b = n at *
    generalize lowB t b = d at *
    generalize lowN t' b' = n' at *
    generalize lowB t' b' = d' at *
    generalize gc t b = g at *
    generalize gc t' b' = g' at *
    subst e1 e2 e3 e4
    have : (n * d') * (g * g') = (n' * d) * (g * g') := by grind
    exact Int.eq_of_mul_eq_mul_right (Int.ne_of_gt (Int.mul_pos g1 g2)) this
  have d1 : (lowB t b).natAbs ∣ (lowB t' b').natAbs := by
    refine c1.symm.dvd_of_dvd_mul_left (m := (lowN t b).natAbs) ?_
    rw [← Int.natAbs_mul, x, Int.natAbs_mul]
    exact Nat.dvd_mul_left ..
  have d2 : (lowB t' b').natAbs ∣ (lowB t b).natAbs := by
    refine c2.symm.dvd_of_dvd_mul_left (m := (lowN t' b').natAbs) ?_
    rw [← Int.natAbs_mul, ← x, Int.natAbs_mul]
    exact Nat.dvd_mul_left ..
  have ed : lowB t b = lowB t' b' := by
    have := Nat.dvd_antisymm d1 d2
    omega
  refine ⟨?_, ed⟩
  rw [ed] at x
  exact Int.eq_of_mul_eq_mul_right (Int.ne_of_gt p2) x
theorem lowN_le {t b : Int} : (lowN t b).natAbs ≤ t.natAbs := Int.natAbs_ediv_le_natAbs ..
theorem lowB_le {t b : Int} : (lowB t b).natAbs ≤ b.natAbs := Int.natAbs_ediv_le_natAbs ..
/-- as fractions -/
theorem low_frac {t b : Int} : lowN t b * b = t * lowB t b := by
  have e1 := lowN_mul (t := t) (b := b)
  have e2 := lowB_mul (t := t) (b := b)
  generalize lowN t b = n at *
  generalize lowB t b = d at *
  generalize gc t b = g at *
  subst e1 e2
  grind
/-! ### what polynomials are worth, over a power of the bottom -/
section
variable (t b : Int)
def hv : List Int → Int
  | [] => 0
  | x :: xs => hv xs * t + x * b ^ xs.length
def evN : Nat → List Int → Int
  | _, [] => 0
  | N, x :: xs => x * b ^ N + t * evN (N - 1) xs
variable {t b}
theorem hv_ev : ∀ a : List Int, hv t b a = evN t b (a.length - 1) a
  | [] => rfl
  | x :: xs => by
    show hv t b xs * t + x * b ^ xs.length = x * b ^ (xs.length + 1 - 1) + t * evN t b (xs.length + 1 - 1 - 1) xs
    rw [hv_ev xs, Nat.add_sub_cancel]
    grind
theorem ev_up : ∀ (a : List Int) (N : Nat), a.length ≤ N + 1 → evN t b (N + 1) a = b * evN t b N a
  | [], N, _ => by simp [evN]
  | x :: xs, N, h => by
    show x * b ^ (N + 1) + t * evN t b (N + 1 - 1) xs = b * (x * b ^ N + t * evN t b (N - 1) xs)
    rw [Nat.add_sub_cancel]
    cases xs with
    | nil => simp [evN]; grind
    | cons y ys =>
      rw [List.length_cons, List.length_cons] at h
      obtain ⟨K, rfl⟩ : ∃ K, N = K + 1 := ⟨N - 1, by omega⟩
      rw [Nat.add_sub_cancel, ev_up (y :: ys) K (by rw [List.length_cons]; omega)]
      grind
theorem ev_far {a : List Int} : ∀ {N : Nat} (k : Nat), a.length ≤ N + 1 → evN t b (N + k) a = b ^ k * evN t b N a
  | N, 0, _ => by simp
  | N, k + 1, h => by
    rw [← Nat.add_assoc, ev_up a (N + k) (by omega), ev_far k h]
    grind
theorem ev_hv {a : List Int} {N : Nat} (h : a.length ≤ N + 1) : evN t b N a = b ^ (N - (a.length - 1)) * hv t b a := by
  rw [hv_ev]
  have := ev_far (t := t) (b := b) (a := a) (N := a.length - 1) (N - (a.length - 1)) (by omega)
  rw [← this]
  congr 1
  omega
theorem ev_strip : ∀ (a : List Int) (N : Nat), evN t b N (strip a) = evN t b N a
  | [], N => rfl
  | x :: xs, N => by
    have ih := ev_strip xs (N - 1)
    unfold strip
    split
    · rename_i e
      rw [e] at ih
      have ih : 0 = evN t b (N - 1) xs := ih
      split
      · rename_i hx
        subst hx
        show 0 = 0 * b ^ N + t * evN t b (N - 1) xs
        rw [← ih]
        grind
      · show x * b ^ N + t * 0 = x * b ^ N + t * evN t b (N - 1) xs
        rw [← ih]
    · rename_i y ys e
      rw [e] at ih
      show x * b ^ N + t * evN t b (N - 1) (y :: ys) = _
      rw [ih]
      rfl
theorem tab_cons (m : Nat) (f : Nat → Int) : tab (m + 1) f = f 0 :: tab m fun k => f (k + 1) := by
  unfold tab
  rw [List.range_succ_eq_map, List.map_cons, List.map_map]
  rfl
theorem ev_sum : ∀ (a c : List Int) (m N : Nat), a.length ≤ m → c.length ≤ m → evN t b N (tab m fun k => atI a k + atI c k) = evN t b N a + evN t b N c
  | [], [], m, N, _, _ => by
    have : ∀ m N, evN t b N (tab m fun k => atI [] k + atI [] k) = 0 := by
      intro m
      induction m with
      | zero => intro N; rfl
      | succ m ih =>
        intro N
        rw [tab_cons]
        show (0 + 0) * b ^ N + t * evN t b (N - 1) (tab m fun k => atI [] k + atI [] k) = 0
        rw [ih]
        grind
    rw [this]
    rfl
  | [], y :: ys, m + 1, N, h1, h2 => by
    rw [tab_cons]
    show (0 + y) * b ^ N + t * evN t b (N - 1) (tab m fun k => atI [] k + atI ys k) = 0 + (y * b ^ N + t * evN t b (N - 1) ys)
    rw [ev_sum [] ys m (N - 1) (Nat.zero_le _) (by rw [List.length_cons] at h2; omega)]
    show _ + t * (0 + _) = _
    grind
  | x :: xs, [], m + 1, N, h1, h2 => by
    rw [tab_cons]
    show (x + 0) * b ^ N + t * evN t b (N - 1) (tab m fun k => atI xs k + atI [] k) = (x * b ^ N + t * evN t b (N - 1) xs) + 0
    rw [ev_sum xs [] m (N - 1) (by rw [List.length_cons] at h1; omega) (Nat.zero_le _)]
    show _ + t * (_ + 0) = _
    grind
  | x :: xs, y :: ys, m + 1, N, h1, h2 => by
    rw [tab_cons]
    show (x + y) * b ^ N + t * evN t b (N - 1) (tab m fun k => atI xs k + atI ys k) = (x * b ^ N + t * evN t b (N - 1) xs) + (y * b ^ N + t * evN t b (N - 1) ys)
    rw [ev_sum xs ys m (N - 1) (by rw [List.length_cons] at h1; omega) (by rw [List.length_cons] at h2; omega)]
    grind
  | x :: xs, c, 0, N, h1, _ => by simp at h1
  | [], y :: ys, 0, N, _, h2 => by simp at h2
theorem sumN_mul (c : Int) (f : Nat → Int) : ∀ n, c * sumN f n = sumN (fun i => c * f i) n
  | 0 => by simp [sumN]
  | n + 1 => by
    show c * (sumN f n + f n) = sumN _ n + c * f n
    rw [← sumN_mul c f n]
    grind
theorem sumN_add (f g : Nat → Int) : ∀ n, sumN (fun i => f i + g i) n = sumN f n + sumN g n
  | 0 => by simp [sumN]
  | n + 1 => by
    show sumN _ n + (f n + g n) = (sumN f n + f n) + (sumN g n + g n)
    rw [sumN_add f g n]
    grind
theorem ev_tab : ∀ (m N : Nat) (f : Nat → Int), m ≤ N + 1 → evN t b N (tab m f) = sumN (fun k => f k * (t ^ k * b ^ (N - k))) m
  | 0, N, f, _ => rfl
  | m + 1, N, f, h => by
    rw [tab_cons, sumN_left]
    show f 0 * b ^ N + t * evN t b (N - 1) (tab m fun k => f (k + 1)) = _
    rw [ev_tab m (N - 1) _ (by omega), sumN_mul]
    congr 1
    · rw [Nat.sub_zero, Int.pow_zero, Int.one_mul]
    · refine sumN_ext fun i hi => ?_
      rw [show N - (i + 1) = N - 1 - i by omega, Int.pow_succ]
      grind
theorem ev_at (a : List Int) {N : Nat} (h : a.length ≤ N + 1) : evN t b N a = sumN (fun k => atI a k * (t ^ k * b ^ (N - k))) a.length := by
  have := ev_tab (t := t) (b := b) a.length N (atI a) h
  rwa [tab_self] at this
theorem sumN_shift (g : Nat → Int) (i : Nat) : ∀ m, sumN (fun k => if i ≤ k then g (k - i) else 0) m = sumN g (m - i)
  | 0 => by simp [sumN]
  | m + 1 => by
    show sumN _ m + (if i ≤ m then g (m - i) else 0) = _
    rw [sumN_shift g i m]
    by_cases h : i ≤ m
    · rw [if_pos h, show m + 1 - i = (m - i) + 1 by omega]
      rfl
    · rw [if_neg h, show m + 1 - i = 0 by omega, show m - i = 0 by omega, Int.add_zero]
theorem ev_conv (a c : List Int) (m : Nat) (w : Nat → Int) : ∀ n, sumN (fun k => conv a c n k * w k) m = sumN (fun i => sumN (fun k => term a c k i * w k) m) n
  | 0 => by
    show sumN (fun k => 0 * w k) m = 0
    have : ∀ m, sumN (fun k => 0 * w k) m = 0 := by
      intro m
      induction m with
      | zero => rfl
      | succ m ih =>
        show sumN _ m + 0 * w m = 0
        rw [ih]
        grind
    exact this m
  | n + 1 => by
    show sumN (fun k => (conv a c n k + term a c k n) * w k) m = sumN _ n + sumN (fun k => term a c k n * w k) m
    rw [← ev_conv a c m w n, ← sumN_add]
    exact sumN_ext fun k _ => by grind
theorem ev_mul {a c : List Int} (ha : a ≠ []) (hc : c ≠ []) : evN t b (a.length - 1 + (c.length - 1)) (pmul a c) = evN t b (a.length - 1) a * evN t b (c.length - 1) c := by
  have la : 0 < a.length := List.length_pos_iff.mpr ha
  have lc : 0 < c.length := List.length_pos_iff.mpr hc
  unfold pmul
  rw [if_neg (by simp [ha, hc]), ev_tab _ _ _ (by omega), ev_conv, ev_at a (by omega), ev_at c (by omega), Int.mul_comm, sumN_mul]
  refine sumN_ext fun i hi => ?_
  have e : sumN (fun k => term a c k i * (t ^ k * b ^ (a.length - 1 + (c.length - 1) - k))) (a.length + c.length - 1) = sumN (fun k => if i ≤ k then (fun j => atI a i * atI c j * (t ^ (i + j) * b ^ (a.length - 1 + (c.length - 1) - (i + j)))) (k - i) else 0) (a.length + c.length - 1) := sumN_ext fun k hk => by
    unfold term
    by_cases h : i ≤ k
    · rw [if_pos h, if_pos h]
      dsimp only
      rw [show i + (k - i) = k by omega]
    · rw [if_neg h, if_neg h, Int.zero_mul]
  have e3 := sumN_shift (fun j => atI a i * atI c j * (t ^ (i + j) * b ^ (a.length - 1 + (c.length - 1) - (i + j)))) i (a.length + c.length - 1)
  rw [e]
  refine e3.trans ?_
  rw [Int.mul_comm, sumN_mul]
  have e2 : a.length + c.length - 1 - i = c.length + (a.length - 1 - i) := by omega
  rw [e2, sumN_more (n := c.length) (a.length - 1 - i) (fun j hj => by rw [atI_out (a := c) hj]; grind)]
  refine sumN_ext fun j hj => ?_
  rw [show a.length - 1 + (c.length - 1) - (i + j) = (a.length - 1 - i) + (c.length - 1 - j) by omega, Int.pow_add, Int.pow_add]
  grind
end
end Mir.P
/-! Mir, part Pair2: all ties in closed form; the rest told twice. -/
namespace Mir.P
open PySem
set_option maxHeartbeats 2000000
def oddN : Nat → Nat
  | 0 => 1
  | k + 1 => oddN k * (2 * k + 1)
theorem ch_sucN {n k : Nat} : ch (n + 1) (k + 1) = ch n k + ch n (k + 1) := rfl
theorem ch_mul (n k : Nat) : (n + 1) * ch n k = ch (n + 1) (k + 1) * (k + 1) := by
  have h1 := ch_step (n + 1) k
  have h2 := ch_step n k
  rw [h1]
  by_cases h : k ≤ n
  · cases k with
    | zero => rw [ch_zero, ch_zero]; omega
    | succ k =>
      have h3 := ch_step n k
      have h4 : ch (n + 1) (k + 1) = ch n k + ch n (k + 1) := rfl
      rw [h4, Nat.add_sub_add_right]
      have e : n - k = (n - (k + 1)) + 1 := by omega
      rw [e] at h3 ⊢
      obtain ⟨d, hd⟩ : ∃ d, n = d + (k + 1) := ⟨n - (k + 1), by omega⟩
      rw [show n - (k + 1) = d by omega] at h3 ⊢
      generalize ch n k = a at *
      generalize ch n (k + 1) = b at *
      subst hd
      grind
  · rw [ch_out (n := n) (k := k) (by omega), Nat.mul_zero]
    by_cases hk : k = n + 1
    · subst hk
      rw [Nat.sub_self, Nat.mul_zero]
    · rw [ch_out (n := n + 1) (k := k) (by omega), Nat.zero_mul]
theorem ch_mulI (n k : Nat) : ((n : Int) + 1) * (ch n k : Int) = (ch (n + 1) (k + 1) : Int) * ((k : Int) + 1) := by
  have := congrArg (fun x : Nat => (x : Int)) (ch_mul n k)
  simp only [Int.natCast_mul, Int.natCast_add] at this
  exact this
theorem fullN_is : ∀ (n k : Nat), fullN n k = (ch n (2 * k) : Int) * (oddN k : Int)
  | n, 0 => by
    rw [fullN_z, Nat.mul_zero, ch_zero]
    rfl
  | 0, k + 1 => by
    rw [ch_out (by omega)]
    show (0 : Int) = ((0 : Nat) : Int) * _
    simp
  | 1, k + 1 => by
    rw [ch_out (by omega)]
    show (0 : Int) = ((0 : Nat) : Int) * _
    simp
  | n + 2, k + 1 => by
    show fullN (n + 1) (k + 1) + ((n : Int) + 1) * fullN n k = _
    rw [fullN_is (n + 1) (k + 1), fullN_is n k]
    have h1 : ch (n + 2) (2 * (k + 1)) = ch (n + 1) (2 * k + 1) + ch (n + 1) (2 * (k + 1)) := rfl
    have h4 := ch_mulI n (2 * k)
    have h3 : oddN (k + 1) = oddN k * (2 * k + 1) := rfl
    rw [h1, h3]
    simp only [Int.natCast_mul, Int.natCast_add] at h4 ⊢
    generalize (ch (n + 1) (2 * k + 1) : Int) = a at *
    generalize (ch (n + 1) (2 * (k + 1)) : Int) = b at *
    generalize (ch n (2 * k) : Int) = c at *
    generalize (oddN k : Int) = o at *
    generalize (k : Int) = y at *
    generalize (n : Int) = x at *
    have : (x + 1) * (c * o) = ((x + 1) * c) * o := by grind
    rw [this, h4]
    have e1 : ((2 : Nat) : Int) = 2 := rfl
    have e2 : ((1 : Nat) : Int) = 1 := rfl
    grind
theorem fullN_out {n k : Nat} (h : n < 2 * k) : fullN n k = 0 := by
  rw [fullN_is, ch_out h]
  show ((0 : Nat) : Int) * _ = 0
  simp
theorem fullN_two (n k : Nat) : 2 * ((k : Int) + 1) * fullN (n + 2) (k + 1) = ((n : Int) + 2) * ((n : Int) + 1) * fullN n k := by
  rw [fullN_is, fullN_is]
  have h1 := ch_mulI n (2 * k)
  have h2 := ch_mulI (n + 1) (2 * k + 1)
  have h3 : oddN (k + 1) = oddN k * (2 * k + 1) := rfl
  have e : 2 * (k + 1) = 2 * k + 1 + 1 := by omega
  rw [e, h3]
  have e1 : ((2 : Nat) : Int) = 2 := rfl
  have e2 : ((1 : Nat) : Int) = 1 := rfl
  simp only [Int.natCast_mul, Int.natCast_add, e1, e2] at h1 h2 ⊢
  generalize (ch (n + 2) (2 * k + 1 + 1) : Int) = p at *
  generalize (ch (n + 1) (2 * k + 1) : Int) = q at *
  generalize (ch n (2 * k) : Int) = r at *
  generalize (oddN k : Int) = o at *
  generalize (k : Int) = y at *
  generalize (n : Int) = x at *
  have s1 : 2 * (y + 1) * (p * (o * (2 * y + 1))) = (p * (2 * y + 1 + 1)) * (2 * y + 1) * o := by grind
  have s2 : (x + 2) * (x + 1) * (r * o) = (x + 1 + 1) * (((x + 1) * r) * o) := by grind
  rw [s1, ← h2, s2, h1]
  grind
/-- so many ties, then so many more -/
theorem fullN_prod : ∀ (a n b : Nat), fullN n a * fullN (n - 2 * a) b = fullN n (a + b) * (ch (a + b) a : Int)
  | 0, n, b => by
    rw [fullN_z, ch_zero, Nat.zero_add, Nat.mul_zero, Nat.sub_zero, Int.one_mul]
    exact (Int.mul_one _).symm
  | a + 1, n, b => by
    by_cases h : n < 2
    · rw [fullN_out (n := n) (k := a + 1) (by omega), fullN_out (n := n) (k := a + 1 + b) (by omega), Int.zero_mul, Int.zero_mul]
    · obtain ⟨m, rfl⟩ : ∃ m, n = m + 2 := ⟨n - 2, by omega⟩
      have ih := fullN_prod a m b
      have t1 := fullN_two m a
      have t2 := fullN_two m (a + b)
      have c := ch_mulI (a + b) a
      rw [show m + 2 - 2 * (a + 1) = m - 2 * a by omega, show a + 1 + b = a + b + 1 by omega]
      simp only [Int.natCast_add] at t2 c
      generalize fullN (m + 2) (a + 1) = p at *
      generalize fullN (m - 2 * a) b = q at *
      generalize fullN (m + 2) (a + b + 1) = r at *
      generalize fullN m a = s at *
      generalize fullN m (a + b) = u at *
      generalize (ch (a + b) a : Int) = v at *
      generalize (ch (a + b + 1) (a + 1) : Int) = w at *
      have pos : 2 * ((a : Int) + 1) ≠ 0 := by omega
      generalize (a : Int) = x at *
      generalize (b : Int) = y at *
      generalize (m : Int) = z at *
      refine Int.eq_of_mul_eq_mul_right pos ?_
      have s1 : p * q * (2 * (x + 1)) = (2 * (x + 1) * p) * q := by grind
      have s2 : r * w * (2 * (x + 1)) = 2 * r * (w * (x + 1)) := by grind
      rw [s1, t1, s2, ← c]
      have s3 : (z + 2) * (z + 1) * s * q = (z + 2) * (z + 1) * (s * q) := by grind
      have s4 : 2 * r * ((x + y + 1) * v) = (2 * (x + y + 1) * r) * v := by grind
      rw [s3, ih, s4, t2]
      grind
theorem alt_sum : ∀ n : Nat, sumN (fun a => (-1) ^ a * (ch n a : Int)) (n + 1) = if n = 0 then 1 else 0
  | 0 => by decide
  | n + 1 => by
    rw [if_neg (by omega), sumN_left]
    have e : sumN (fun i => (-1) ^ (i + 1) * (ch (n + 1) (i + 1) : Int)) (n + 1) = sumN (fun i => (-1) * ((-1) ^ i * (ch n i : Int)) + (-1) ^ (i + 1) * (ch n (i + 1) : Int)) (n + 1) := sumN_ext fun i _ => by
      rw [ch_sucN, Int.natCast_add, Int.pow_succ]
      grind
    rw [e, sumN_add, ← sumN_mul]
    have e2 := sumN_left (fun i => (-1) ^ i * (ch n i : Int)) (n + 1)
    have e3 : sumN (fun a => (-1) ^ a * (ch n a : Int)) (n + 1 + 1) = sumN (fun a => (-1) ^ a * (ch n a : Int)) (n + 1) := by
      show sumN _ (n + 1) + (-1) ^ (n + 1) * (ch n (n + 1) : Int) = _
      rw [ch_out (by omega)]
      simp
    rw [e3] at e2
    rw [ch_zero] at e2 ⊢
    simp only [Int.pow_zero, Int.one_mul] at e2 ⊢
    generalize sumN (fun i => (-1) ^ (i + 1) * (ch n (i + 1) : Int)) (n + 1) = z at *
    generalize sumN (fun a => (-1) ^ a * (ch n a : Int)) (n + 1) = y at *
    omega
theorem sumN_swap (f : Nat → Nat → Int) (m : Nat) : ∀ n, sumN (fun i => sumN (fun j => f i j) m) n = sumN (fun j => sumN (fun i => f i j) n) m
  | 0 => by
    show 0 = _
    have : ∀ m, sumN (fun j => sumN (fun i => f i j) 0) m = 0 := by
      intro m
      induction m with
      | zero => rfl
      | succ m ih =>
        show sumN _ m + 0 = 0
        rw [ih]
        rfl
    exact (this m).symm
  | n + 1 => by
    show sumN _ n + sumN (fun j => f n j) m = _
    rw [sumN_swap f m n, ← sumN_add]
    rfl
theorem sumN_upto (g : Nat → Int) {i k : Nat} (h : i ≤ k) : sumN g (i + 1) = sumN (fun j => if j ≤ i then g j else 0) (k + 1) := by
  have h1 : sumN g (i + 1) = sumN (fun j => if j ≤ i then g j else 0) (i + 1) := sumN_ext fun j hj => by rw [if_pos (by omega)]
  rw [h1]
  have := sumN_more (f := fun j => if j ≤ i then g j else 0) (n := i + 1) (k - i) (fun j hj => if_neg (by omega))
  rw [show i + 1 + (k - i) = k + 1 by omega] at this
  exact this.symm
theorem neg_pow_two (j : Nat) : ((-1 : Int) ^ j) * (-1) ^ j = 1 := by
  rw [← Int.mul_pow]
  simp [Int.one_pow]
theorem sumN_one (k : Nat) (g : Nat → Int) : ∀ n, k < n → sumN (fun j => if j = k then g j else 0) n = g k
  | 0, h => by omega
  | n + 1, h => by
    show sumN _ n + (if n = k then g n else 0) = g k
    by_cases e : n = k
    · subst e
      rw [if_pos rfl]
      have : ∀ m, m ≤ n → sumN (fun j => if j = n then g j else 0) m = 0 := by
        intro m
        induction m with
        | zero => intro _; rfl
        | succ m ih =>
          intro hm
          show sumN _ m + (if m = n then g m else 0) = 0
          rw [ih (by omega), if_neg (by omega)]
          rfl
      rw [this n (Nat.le_refl _)]
      omega
    · rw [if_neg e, sumN_one k g n (by omega)]
      omega
/-- the rest of the rest -/
theorem restS_twice (w : Seq) (n k : Nat) : restS (restS w n) n k = w k := by
  unfold restS
  have e1 : sumN (fun i => (-1) ^ i * sumN (fun j => (-1) ^ j * w j * fullN (n - 2 * j) (i - j)) (i + 1) * fullN (n - 2 * i) (k - i)) (k + 1) = sumN (fun i => sumN (fun j => (-1) ^ i * (if j ≤ i then (-1) ^ j * w j * fullN (n - 2 * j) (i - j) else 0) * fullN (n - 2 * i) (k - i)) (k + 1)) (k + 1) := sumN_ext fun i hi => by
    rw [sumN_upto _ (show i ≤ k by omega), sumN_mul, Int.mul_comm, sumN_mul]
    exact sumN_ext fun j _ => Int.mul_comm ..
  rw [e1, sumN_swap]
  have e2 : sumN (fun j => sumN (fun i => (-1) ^ i * (if j ≤ i then (-1) ^ j * w j * fullN (n - 2 * j) (i - j) else 0) * fullN (n - 2 * i) (k - i)) (k + 1)) (k + 1) = sumN (fun j => if j = k then w j else 0) (k + 1) := sumN_ext fun j hj => by
    have e3 : sumN (fun i => (-1) ^ i * (if j ≤ i then (-1) ^ j * w j * fullN (n - 2 * j) (i - j) else 0) * fullN (n - 2 * i) (k - i)) (k + 1) = sumN (fun i => if j ≤ i then (fun a => w j * fullN (n - 2 * j) (k - j) * ((-1) ^ a * (ch (k - j) a : Int))) (i - j) else 0) (k + 1) := sumN_ext fun i hi => by
      by_cases h : j ≤ i
      · rw [if_pos h, if_pos h]
        dsimp only
        have pr := fullN_prod (i - j) (n - 2 * j) (k - i)
        rw [show n - 2 * j - 2 * (i - j) = n - 2 * i by omega, show i - j + (k - i) = k - j by omega] at pr
        have pw : (-1 : Int) ^ i = (-1) ^ j * (-1) ^ (i - j) := by rw [← Int.pow_add, show j + (i - j) = i by omega]
        have nn := neg_pow_two j
        rw [pw]
        generalize fullN (n - 2 * j) (i - j) = A at *
        generalize fullN (n - 2 * i) (k - i) = B at *
        generalize fullN (n - 2 * j) (k - j) = C at *
        generalize (ch (k - j) (i - j) : Int) = D at *
        generalize (-1 : Int) ^ j = x at *
        generalize (-1 : Int) ^ (i - j) = y at *
        have s1 : x * y * (x * w j * A) * B = (x * x) * (y * w j) * (A * B) := by grind
        rw [s1, nn, pr]
        grind
      · rw [if_neg h, if_neg h, Int.mul_zero, Int.zero_mul]
    rw [e3]
    have e4 := sumN_shift (fun a => w j * fullN (n - 2 * j) (k - j) * ((-1) ^ a * (ch (k - j) a : Int))) j (k + 1)
    refine e4.trans ?_
    rw [← sumN_mul, show k + 1 - j = k - j + 1 by omega, alt_sum]
    by_cases h : j = k
    · subst h
      rw [Nat.sub_self, if_pos rfl, if_pos rfl, fullN_z]
      grind
    · rw [if_neg (by omega), if_neg h, Int.mul_zero]
  rw [e2, sumN_one k w (k + 1) (by omega)]
theorem restS_out {w : Seq} {n : Nat} (hw : ∀ k, n < 2 * k → w k = 0) {k : Nat} (hk : n < 2 * k) : restS w n k = 0 := by
  unfold restS
  have : ∀ j, j < k + 1 → (-1) ^ j * w j * fullN (n - 2 * j) (k - j) = 0 := fun j hj => by
    by_cases h : n < 2 * j
    · rw [hw j h]
      simp
    · rw [fullN_out (by omega), Int.mul_zero]
  rw [sumN_ext (g := fun _ => 0) this]
  have z : ∀ m, sumN (fun _ => 0) m = 0 := by
    intro m
    induction m with
    | zero => rfl
    | succ m ih =>
      show sumN _ m + 0 = 0
      rw [ih]
      rfl
  exact z _
theorem two_free {U : Use} {a b : Nat} {us : List Nat} (ha : a ∈ us) (hb : b ∈ us) (hab : a ≠ b) (hUa : U a = false) (hUb : U b = false) : 2 ≤ freeN U us := by
  obtain ⟨s, t, rfl⟩ := List.append_of_mem ha
  unfold freeN
  rw [List.countP_append, List.countP_cons]
  rcases List.mem_append.mp hb with hs | hs
  · have : 0 < s.countP fun v => !U v := List.countP_pos_iff.mpr ⟨b, hs, by simp [hUb]⟩
    simp [hUa]
    omega
  · have hs' : b ∈ t := (List.mem_cons.mp hs).resolve_left (Ne.symm hab)
    have : 0 < t.countP fun v => !U v := List.countP_pos_iff.mpr ⟨b, hs', by simp [hUb]⟩
    simp [hUa]
    omega
theorem W_out {m : Nat} : ∀ {ts : Ties}, (∀ p ∈ ts, p.1 ∈ List.range m ∧ p.2 ∈ List.range m ∧ p.1 ≠ p.2) → ∀ (U : Use) (k : Nat), freeN U (List.range m) < 2 * k → W ts U k = 0
  | [], _, U, k, h => by
    cases k with
    | zero => omega
    | succ k => rfl
  | p :: ts, hp, U, k, h => by
    obtain ⟨h1, h2, h3⟩ := hp p (List.mem_cons_self ..)
    have ih := W_out fun q hq => hp q (List.mem_cons_of_mem _ hq)
    rw [W_cons, ih U k h]
    cases hU : U p.1 || U p.2 with
    | true => rfl
    | false =>
      obtain ⟨u1, u2⟩ : U p.1 = false ∧ U p.2 = false := by
        cases e1 : U p.1 <;> cases e2 : U p.2 <;> simp [e1, e2] at hU <;> exact ⟨rfl, rfl⟩
      cases k with
      | zero => omega
      | succ k =>
        show 0 + W ts (ins U p.1 p.2) k = 0
        have tw := two_free h1 h2 h3 u1 u2
        rw [ih _ k (by rw [freeN_ins2 List.nodup_range h1 h2 h3 u1 u2]; omega)]
        rfl
theorem web_out {m : Nat} {ts : Ties} (h : Web m ts) {k : Nat} (hk : m < 2 * k) : W ts U0 k = 0 :=
  W_out (m := m) (fun p hp => by
    have := h.mem hp
    exact ⟨List.mem_range.mpr (by omega), List.mem_range.mpr (by omega), by omega⟩) U0 k (by rw [freeN_U0, List.length_range]; exact hk)
theorem W_zero (ts : Ties) (U : Use) : W ts U 0 = 1 := by
  induction ts with
  | nil => rfl
  | cons p ts ih =>
    rw [W_cons, ih]
    cases U p.1 || U p.2 <;> rfl
end Mir.P
/-! Mir, part Row: the rows of full webs, lines and rings, full webs, rests: programs that are alike in many laws. -/
namespace Mir.P
open PySem
set_option maxHeartbeats 4000000
section
variable {T : List FDef} {M m : Nat}
abbrev tI (a : List Int) : D := .tuple (a.map PyData.int)
def F (n k : Nat) : Int := (ch n (2 * k) : Int) * (oddN k : Int)
def Fr (n : Nat) : List Int := tab (n / 2 + 1) (F n)
def L (n k : Nat) : Int := (ch (n - k) k : Int)
def Lr (n : Nat) : List Int := tab (n / 2 + 1) (L n)
theorem atI_tab {n k : Nat} {f : Nat → Int} (h : n ≤ k → f k = 0) : atI (tab n f) k = f k := by
  unfold atI
  rw [List.getD_eq_getElem?_getD]
  by_cases hk : k < n
  · rw [tab_get hk]
    rfl
  · rw [List.getElem?_eq_none (by rw [tab_len]; omega), h (by omega)]
    rfl
theorem at_F {n k : Nat} : atI (Fr n) k = F n k := atI_tab fun h => by
  unfold F
  rw [ch_out (by omega)]
  simp
theorem at_L {n k : Nat} : atI (Lr n) k = L n k := atI_tab fun h => by
  unfold L
  rw [ch_out (by omega)]
  rfl
theorem F_zero (n : Nat) : F n 0 = 1 := by
  unfold F
  rw [Nat.mul_zero, ch_zero]
  rfl
theorem L_zero (n : Nat) : L n 0 = 1 := by
  unfold L
  rw [Nat.sub_zero, ch_zero]
  rfl
theorem ch_small {n k : Nat} (h : n ≤ 62) : (ch n k : Int) < 9223372036854775808 := by
  have h1 := ch_le n k
  have h2 := pow_le h
  have : ch n k ≤ 2 ^ 62 := Nat.le_trans h1 h2
  omega
def fullWebD : FDef := ⟨1, 4, [], [.set (.nm 1) (.disp false []),
.for_ .rng [.v 0] (.nm 2) [.ext 1 (.comp .rng [.p .add [.o 2, .c (.int 1)], .v 0] (.nm 3) [] (.disp true [.v 2, .v 3]))],
.ret (.disp true [.v 0, .p .tuple [.o 1]])]⟩
def fullTieD : FDef := ⟨1, 4, [], [.set (.nm 1) (.disp false []),
.for_ .rng [.v 0] (.nm 2) [.ext 1 (.comp .rng [.p .add [.o 2, .c (.int 1)], .v 0] (.nm 3) [] (.disp true [.v 2, .v 3]))],
.ret (.p .tuple [.o 1])]⟩
def fullRowD (c : Nat) : FDef := ⟨1, 4, [], [.set (.nm 1) (.disp false []),
.set (.nm 2) (.c (.int 1)),
.for_ .rng [.p .add [.p .fdiv [.o 0, .c (.int 2)], .c (.int 1)]] (.nm 3) [.app 1 (.p .mul [.call c [.v 0, .p .mul [.c (.int 2), .o 3]] [], .o 2]),
.set (.nm 2) (.p .mul [.o 2, .p .add [.p .mul [.c (.int 2), .o 3], .c (.int 1)]])],
.ret (.p .tuple [.o 1])]⟩
def lineRowD (c : Nat) : FDef := ⟨1, 2, [], [.ret (.p .tuple [.comp .rng [.p .add [.p .fdiv [.o 0, .c (.int 2)], .c (.int 1)]] (.nm 1) [] (.call c [.p .sub [.o 0, .o 1], .v 1] [])])]⟩
def ringRowD (c : Nat) : FDef := ⟨1, 2, [], [.ret (.p .add [.disp true [.c (.int 1)], .p .tuple [.comp .rng [.c (.int 1), .p .add [.p .fdiv [.o 0, .c (.int 2)], .c (.int 1)]] (.nm 1) [] (.p .add [.call c [.p .sub [.o 0, .o 1], .v 1] [], .call c [.p .sub [.p .sub [.o 0, .o 1], .c (.int 1)], .p .sub [.o 1, .c (.int 1)]] []])]])]⟩
theorem fullRow_ok {c i n : Nat} (hT : T[i]? = some (fullRowD c)) (hc : T[c]? = some chosenD)  (hn : n ≤ 60) : Ok (callF T M (m + 2) i [.int (n : Int)]) fun p => p = (tI (Fr n), []) := by
  refine call_ok hT rfl ?_
  unfold fullRowD
  have e0 : (n : Int) / 2 = ((n / 2 : Nat) : Int) := by omega
  have e1 : ((n / 2 : Nat) : Int) + 1 = ((n / 2 + 1 : Nat) : Int) := by omega
  simp only [mirS, List.all_cons, List.all_nil, Bool.and_true, Bool.true_and, decide_true, List.length_cons, List.length_nil, decide_eq_true_eq, Nat.zero_le, Nat.reduceLeDiff, Int.reduceLE, Int.reduceLT, Int.reducePow, Int.reduceNeg, Int.reduceToNat, ↓reduceIte, Bool.false_eq_true, Option.toList_some, Option.toList_none, List.append_nil, List.length_map, List.map_cons, List.map_nil, List.cons_append, List.nil_append, Nat.reduceSub, List.replicate, e0, e1, it_rng1 (n := ((n / 2 + 1 : Nat) : Int)) (rngOk_s (by omega) (by omega)), natCast_toNat]
  refine for_rng0 (fun k ε => ∃ y, ε = [some (.int (n : Int)), some (.list ((tab k (F n)).map PyData.int)), some (.int (oddN k : Int)), y]) ⟨none, rfl⟩ ?_ ?_
  · rintro k ε hk ⟨y, rfl⟩
    have e2 : (2 : Int) * (k : Int) = ((2 * k : Nat) : Int) := by omega
    have e3 : ((2 * k : Nat) : Int) + 1 = ((2 * k + 1 : Nat) : Int) := by omega
    simp only [mirS, List.all_cons, List.all_nil, Bool.and_true, Bool.true_and, decide_true, List.length_cons, List.length_nil, decide_eq_true_eq, Nat.zero_le, Nat.reduceLeDiff, Int.reduceLE, Int.reduceLT, Int.reducePow, Int.reduceNeg, Int.reduceToNat, ↓reduceIte, Bool.false_eq_true, Option.toList_some, Option.toList_none, List.append_nil, List.length_map, e2]
    refine (chosen_ok hc (n := n) (k := 2 * k) (by omega) (by omega)).mono ?_
    rintro _ rfl
    have k1 : -9223372036854775808 ≤ (ch n (2 * k) : Int) := by omega
    have k2 : (ch n (2 * k) : Int) < 9223372036854775808 := ch_small (by omega)
    have k3 : -9223372036854775808 ≤ ((2 * k + 1 : Nat) : Int) := by omega
    have k4 : ((2 * k + 1 : Nat) : Int) < 9223372036854775808 := by omega
    simp only [mirS, List.all_cons, List.all_nil, Bool.and_true, Bool.true_and, decide_true, List.length_cons, List.length_nil, decide_eq_true_eq, Nat.zero_le, Nat.reduceLeDiff, Int.reduceLE, Int.reduceLT, Int.reducePow, Int.reduceNeg, Int.reduceToNat, ↓reduceIte, Bool.false_eq_true, Option.toList_some, Option.toList_none, List.append_nil, List.length_map, k1, k2, tab_len, g_app (show k ≤ 1000 by omega), e2, e3, k3, k4]
    refine ⟨some (.int (k : Int)), ?_⟩
    rw [show (oddN (k + 1) : Int) = (oddN k : Int) * ((2 * k + 1 : Nat) : Int) by rw [show oddN (k + 1) = oddN k * (2 * k + 1) from rfl, Int.natCast_mul]]
    rw [show tab (k + 1) (F n) = tab k (F n) ++ [(ch n (2 * k) : Int) * (oddN k : Int)] by unfold tab; rw [List.range_succ, List.map_append]; rfl]
  · rintro ε ⟨y, rfl⟩
    simp only [mirS, List.all_cons, List.all_nil, Bool.and_true, Bool.true_and, decide_true, List.length_cons, List.length_nil, decide_eq_true_eq, Nat.zero_le, Nat.reduceLeDiff, Int.reduceLE, Int.reduceLT, Int.reducePow, Int.reduceNeg, Int.reduceToNat, ↓reduceIte, Bool.false_eq_true, Option.toList_some, Option.toList_none, List.append_nil, List.length_map]
    rfl
theorem lineRow_ok {c i n : Nat} (hT : T[i]? = some (lineRowD c)) (hc : T[c]? = some chosenD)  (hn : n ≤ 60) : Ok (callF T M (m + 2) i [.int (n : Int)]) fun p => p = (tI (Lr n), []) := by
  refine call_ok hT rfl ?_
  unfold lineRowD
  have e0 : (n : Int) / 2 = ((n / 2 : Nat) : Int) := by omega
  have e1 : ((n / 2 : Nat) : Int) + 1 = ((n / 2 + 1 : Nat) : Int) := by omega
  simp only [mirS, List.all_cons, List.all_nil, Bool.and_true, Bool.true_and, decide_true, List.length_cons, List.length_nil, decide_eq_true_eq, Nat.zero_le, Nat.reduceLeDiff, Int.reduceLE, Int.reduceLT, Int.reducePow, Int.reduceNeg, Int.reduceToNat, ↓reduceIte, Bool.false_eq_true, Option.toList_some, Option.toList_none, List.append_nil, List.length_map, List.map_cons, List.map_nil, List.cons_append, List.nil_append, Nat.reduceSub, List.replicate, e0, e1, it_rng1 (n := ((n / 2 + 1 : Nat) : Int)) (rngOk_s (by omega) (by omega)), natCast_toNat]
  refine comp_tab (J := fun ε => ∃ y, ε = [some (.int (n : Int)), y]) (fun k => .int (L n k)) ⟨none, rfl⟩ ?_ ?_
  · rintro k ε hk ⟨y, rfl⟩
    have e2 : (n : Int) - (k : Int) = ((n - k : Nat) : Int) := by omega
    simp only [mirS, List.all_cons, List.all_nil, Bool.and_true, Bool.true_and, decide_true, List.length_cons, List.length_nil, decide_eq_true_eq, Nat.zero_le, Nat.reduceLeDiff, Int.reduceLE, Int.reduceLT, Int.reducePow, Int.reduceNeg, Int.reduceToNat, ↓reduceIte, Bool.false_eq_true, Option.toList_some, Option.toList_none, List.append_nil, List.length_map, e2]
    refine (chosen_ok hc (n := n - k) (k := k) (by omega) (by omega)).mono ?_
    rintro _ rfl
    simp only [mirS, List.all_cons, List.all_nil, Bool.and_true, Bool.true_and, decide_true, List.length_cons, List.length_nil, decide_eq_true_eq, Nat.zero_le, Nat.reduceLeDiff, Int.reduceLE, Int.reduceLT, Int.reducePow, Int.reduceNeg, Int.reduceToNat, ↓reduceIte, Bool.false_eq_true, Option.toList_some, Option.toList_none, List.append_nil, List.length_map]
    exact ⟨rfl, _, rfl⟩
  · rintro ε ⟨y, rfl⟩
    simp only [mirS, List.all_cons, List.all_nil, Bool.and_true, Bool.true_and, decide_true, List.length_cons, List.length_nil, decide_eq_true_eq, Nat.zero_le, Nat.reduceLeDiff, Int.reduceLE, Int.reduceLT, Int.reducePow, Int.reduceNeg, Int.reduceToNat, ↓reduceIte, Bool.false_eq_true, Option.toList_some, Option.toList_none, List.append_nil, List.length_map, tab_map, tab_len, g_fit (show n / 2 + 1 ≤ 1000 by omega)]
    rfl
def Rr (n : Nat) : List Int := tab (n / 2 + 1) fun k => L n k + (if k = 0 then 0 else L (n - 2) (k - 1))
theorem ringRow_ok {c i n : Nat} (hT : T[i]? = some (ringRowD c)) (hc : T[c]? = some chosenD) (h3 : 3 ≤ n) (hn : n ≤ 60) : Ok (callF T M (m + 2) i [.int (n : Int)]) fun p => p = (tI (Rr n), []) := by
  refine call_ok hT rfl ?_
  unfold ringRowD
  have e0 : (n : Int) / 2 = ((n / 2 : Nat) : Int) := by omega
  have e1 : ((n / 2 : Nat) : Int) + 1 = ((n / 2 + 1 : Nat) : Int) := by omega
  have e5 : (((n / 2 + 1 : Nat) : Int) - 1).toNat = n / 2 := by omega
  simp only [mirS, List.all_cons, List.all_nil, Bool.and_true, Bool.true_and, decide_true, List.length_cons, List.length_nil, decide_eq_true_eq, Nat.zero_le, Nat.reduceLeDiff, Int.reduceLE, Int.reduceLT, Int.reducePow, Int.reduceNeg, Int.reduceToNat, ↓reduceIte, Bool.false_eq_true, Option.toList_some, Option.toList_none, List.append_nil, List.length_map, List.map_cons, List.map_nil, List.cons_append, List.nil_append, Nat.reduceSub, List.replicate, e0, e1, it_rng2 (a := 1) (b := ((n / 2 + 1 : Nat) : Int)) (rngOk_s (by decide) (by decide)) (rngOk_s (by omega) (by omega)), e5]
  refine comp_tab1 (J := fun ε => ∃ y, ε = [some (.int (n : Int)), y]) (fun i => .int (L n (i + 1) + L (n - 2) i)) ⟨none, rfl⟩ ?_ ?_
  · rintro k ε hk ⟨y, rfl⟩
    have e2' : (n : Int) - ((k + 1 : Nat) : Int) = ((n - (k + 1) : Nat) : Int) := by omega
    have e3 : (1 : Int) + (k : Int) = ((k + 1 : Nat) : Int) := by omega
    have e4 : ((n - (k + 1) : Nat) : Int) - 1 = ((n - 2 - k : Nat) : Int) := by omega
    have e6 : ((k + 1 : Nat) : Int) - 1 = (k : Int) := by omega
    simp only [mirS, List.all_cons, List.all_nil, Bool.and_true, Bool.true_and, decide_true, List.length_cons, List.length_nil, decide_eq_true_eq, Nat.zero_le, Nat.reduceLeDiff, Int.reduceLE, Int.reduceLT, Int.reducePow, Int.reduceNeg, Int.reduceToNat, ↓reduceIte, Bool.false_eq_true, Option.toList_some, Option.toList_none, List.append_nil, List.length_map, e3, e2']
    refine (chosen_ok hc (n := n - (k + 1)) (k := k + 1) (by omega) (by omega)).mono ?_
    rintro _ rfl
    simp only [mirS, List.all_cons, List.all_nil, Bool.and_true, Bool.true_and, decide_true, List.length_cons, List.length_nil, decide_eq_true_eq, Nat.zero_le, Nat.reduceLeDiff, Int.reduceLE, Int.reduceLT, Int.reducePow, Int.reduceNeg, Int.reduceToNat, ↓reduceIte, Bool.false_eq_true, Option.toList_some, Option.toList_none, List.append_nil, List.length_map, e2', e4, e6]
    refine (chosen_ok hc (n := n - 2 - k) (k := k) (by omega) (by omega)).mono ?_
    rintro _ rfl
    simp only [mirS, List.all_cons, List.all_nil, Bool.and_true, Bool.true_and, decide_true, List.length_cons, List.length_nil, decide_eq_true_eq, Nat.zero_le, Nat.reduceLeDiff, Int.reduceLE, Int.reduceLT, Int.reducePow, Int.reduceNeg, Int.reduceToNat, ↓reduceIte, Bool.false_eq_true, Option.toList_some, Option.toList_none, List.append_nil, List.length_map]
    exact ⟨rfl, _, rfl⟩
  · rintro ε ⟨y, rfl⟩
    simp only [mirS, List.all_cons, List.all_nil, Bool.and_true, Bool.true_and, decide_true, List.length_cons, List.length_nil, decide_eq_true_eq, Nat.zero_le, Nat.reduceLeDiff, Int.reduceLE, Int.reduceLT, Int.reducePow, Int.reduceNeg, Int.reduceToNat, ↓reduceIte, Bool.false_eq_true, Option.toList_some, Option.toList_none, List.append_nil, List.length_map, List.map_cons, List.map_nil, List.cons_append, List.nil_append, Nat.reduceSub, List.replicate, tab_map, tab_len, g_fit (show n / 2 ≤ 1000 by omega), pAdd_t (xs := [.int 1]) (ys := (tab (n / 2) fun i => L n (i + 1) + L (n - 2) i).map PyData.int) (by rw [List.length_singleton, List.length_map, tab_len]; omega)]
    have : Rr n = 1 :: tab (n / 2) fun i => L n (i + 1) + L (n - 2) i := by
      unfold Rr
      have tc : ∀ (q : Nat) (f : Nat → Int), tab (q + 1) f = f 0 :: tab q fun k => f (k + 1) := fun q f => by
        unfold tab
        rw [List.range_succ_eq_map, List.map_cons, List.map_map]
        rfl
      rw [tc, if_pos rfl, L_zero, Int.add_zero]
      congr 1
    rw [this]
    rfl

theorem Fr_len (n : Nat) : (Fr n).length = n / 2 + 1 := tab_len ..
theorem Lr_len (n : Nat) : (Lr n).length = n / 2 + 1 := tab_len ..
theorem oddN_le : ∀ k : Nat, k ≤ 31 → oddN k ≤ 64 ^ k
  | 0, _ => Nat.le_refl _
  | k + 1, h => by
    show oddN k * (2 * k + 1) ≤ _
    rw [Nat.pow_succ]
    exact Nat.mul_le_mul (oddN_le k (by omega)) (by omega)
theorem F_bd {n k : Nat} (hn : n ≤ 60) (hk : k ≤ 31) : (F n k).natAbs < 2 ^ 1920 := by
  unfold F
  rw [Int.natAbs_mul, Int.natAbs_natCast, Int.natAbs_natCast]
  have h1 : ch n (2 * k) ≤ 2 ^ 60 := Nat.le_trans (ch_le ..) (pow_le hn)
  have h2 : oddN k ≤ 2 ^ 186 := Nat.le_trans (oddN_le k hk) (by
    rw [show 64 = 2 ^ 6 from rfl, ← Nat.pow_mul]
    exact pow_le (by omega))
  refine Nat.lt_of_le_of_lt (Nat.mul_le_mul h1 h2) ?_
  rw [← Nat.pow_add]
  exact Nat.pow_lt_pow_right (by decide) (by decide)
theorem L_bd {n k : Nat} (hn : n ≤ 60) : (L n k).natAbs < 2 ^ 61 := by
  unfold L
  rw [Int.natAbs_natCast]
  exact Nat.lt_of_le_of_lt (Nat.le_trans (ch_le ..) (pow_le (show n - k ≤ 60 by omega))) (Nat.pow_lt_pow_right (by decide) (by decide))
theorem nice_F {n : Nat} (hn : n ≤ 60) : Nice (tI (Fr n)) 1 40 := nice_ints_t (fun x hx => by
  obtain ⟨k, hk, rfl⟩ := tab_mem hx
  exact F_bd hn (by omega)) (by decide) (by rw [Fr_len]; omega)
theorem nice_L {n : Nat} (hn : n ≤ 60) : Nice (tI (Lr n)) 1 40 := nice_ints_t (fun x hx => by
  obtain ⟨k, hk, rfl⟩ := tab_mem hx
  exact Nat.lt_of_lt_of_le (L_bd hn) (pow_le (by decide))) (by decide) (by rw [Lr_len]; omega)
theorem nice_R {n : Nat} (hn : n ≤ 60) : Nice (tI (Rr n)) 1 40 := nice_ints_t (fun x hx => by
  obtain ⟨k, hk, rfl⟩ := tab_mem hx
  have h1 := L_bd (n := n) (k := k) hn
  have h2 := L_bd (n := n - 2) (k := k - 1) (by omega)
  have h3 := Int.natAbs_add_le (L n k) (if k = 0 then 0 else L (n - 2) (k - 1))
  have h4 : (if k = 0 then 0 else L (n - 2) (k - 1)).natAbs < 2 ^ 61 := by
    split
    · decide
    · exact h2
  exact Nat.lt_of_lt_of_le (show _ < 2 ^ 62 by omega) (pow_le (by decide))) (by decide) (by unfold Rr; rw [tab_len]; omega)
theorem full_loop {cl : Cl} {N : Nat} {Q : Flow → Prop} {x y : Option D} {n s k j : Nat} (hn : n ≤ 20) (E : D → Option D → Option D → MEnv) {i0 j0 : Option D} {f : D → MEnv → Res Flow}
    (hs : ∀ i a b, i < n → Ok (f (.int (i : Int)) (E (.list (((List.range i).flatMap (rowT n)).map pairD)) a b)) (stepQ (fun ε => ∃ a b, ε = E (.list (((List.range (i + 1)).flatMap (rowT n)).map pairD)) a b) Q))
    (hq : ∀ a b, Q (.nx (E (.list ((fullT n).map pairD)) a b))) : Ok (forM f (upFrom 0 n) (E (.list []) i0 j0)) Q := by
  refine for_rng0 (fun i ε => ∃ a b, ε = E (.list (((List.range i).flatMap (rowT n)).map pairD)) a b) ⟨i0, j0, rfl⟩ ?_ ?_
  · rintro i ε hi ⟨a, b, rfl⟩
    exact hs i a b hi
  · rintro ε ⟨a, b, rfl⟩
    exact hq a b
theorem row_D {n i : Nat} : (List.range (n - (i + 1))).map (fun (j : Nat) => PyData.tuple [.int (i : Int), .int ((i : Int) + 1 + (j : Int))]) = (rowT n i).map pairD := by
  unfold rowT
  rw [List.map_map]
  refine List.map_congr_left fun k _ => ?_
  show _ = pairD (i, i + 1 + k)
  unfold pairD
  congr 4
theorem row_fit {n i : Nat} (hn : n ≤ 20) (hi : i < n) : (rowT n i).length ≤ 1000 ∧ ((List.range i).flatMap (rowT n)).length + (rowT n i).length ≤ 1000 := by
  have h1 := rows_len n i
  have h2 : i * n ≤ 20 * 20 := Nat.mul_le_mul (show i ≤ 20 by omega) hn
  have h3 : (rowT n i).length ≤ 20 := by
    unfold rowT
    rw [List.length_map, List.length_range]
    omega
  omega
theorem fullWeb_ok {i n : Nat} (hT : T[i]? = some fullWebD) (hn : n ≤ 20) : Ok (callF T M (m + 1) i [.int (n : Int)]) fun p => p = (webD n (fullT n), []) := by
  refine call_ok hT rfl ?_
  unfold fullWebD
  simp only [mirS, List.all_cons, List.all_nil, Bool.and_true, Bool.true_and, decide_true, List.length_cons, List.length_nil, decide_eq_true_eq, Nat.zero_le, Nat.reduceLeDiff, Int.reduceLE, Int.reduceLT, Int.reducePow, Int.reduceNeg, Int.reduceToNat, ↓reduceIte, Bool.false_eq_true, Option.toList_some, Option.toList_none, List.append_nil, List.length_map, List.map_cons, List.map_nil, List.cons_append, List.nil_append, Nat.reduceSub, List.replicate, it_rng1 (n := (n : Int)) (rngOk_s (by omega) (by omega)), natCast_toNat]
  refine full_loop (cl := callF T M m) (N := M) (x := none) (y := none) (s := 0) (k := 0) (j := 0) hn (fun l a b => [some (.int (n : Int)), some l, a, b]) ?_ ?_
  · rintro i a b hi
    obtain ⟨g1, g2⟩ := row_fit hn hi
    have e1 : ((n : Int) - ((i : Int) + 1)).toNat = n - (i + 1) := by omega
    simp only [mirS, List.all_cons, List.all_nil, Bool.and_true, Bool.true_and, decide_true, List.length_cons, List.length_nil, decide_eq_true_eq, Nat.zero_le, Nat.reduceLeDiff, Int.reduceLE, Int.reduceLT, Int.reducePow, Int.reduceNeg, Int.reduceToNat, ↓reduceIte, Bool.false_eq_true, Option.toList_some, Option.toList_none, List.append_nil, List.length_map, it_rng2 (a := (i : Int) + 1) (b := (n : Int)) (rngOk_s (by omega) (by omega)) (rngOk_s (by omega) (by omega)), e1]
    refine comp_tab1 (J := fun ε => ∃ z, ε = [some (.int (n : Int)), some (.list (((List.range i).flatMap (rowT n)).map pairD)), some (.int (i : Int)), z]) (fun j => .tuple [.int (i : Int), .int ((i : Int) + 1 + (j : Int))]) ⟨_, rfl⟩ ?_ ?_
    · rintro j ε hj ⟨z, rfl⟩
      simp only [mirS, List.all_cons, List.all_nil, Bool.and_true, Bool.true_and, decide_true, List.length_cons, List.length_nil, decide_eq_true_eq, Nat.zero_le, Nat.reduceLeDiff, Int.reduceLE, Int.reduceLT, Int.reducePow, Int.reduceNeg, Int.reduceToNat, ↓reduceIte, Bool.false_eq_true, Option.toList_some, Option.toList_none, List.append_nil, List.length_map]
      exact ⟨trivial, _, rfl⟩
    · rintro ε ⟨z, rfl⟩
      simp only [mirS, List.all_cons, List.all_nil, Bool.and_true, Bool.true_and, decide_true, List.length_cons, List.length_nil, decide_eq_true_eq, Nat.zero_le, Nat.reduceLeDiff, Int.reduceLE, Int.reduceLT, Int.reducePow, Int.reduceNeg, Int.reduceToNat, ↓reduceIte, Bool.false_eq_true, Option.toList_some, Option.toList_none, List.append_nil, List.length_map, row_D, g_fit g1, g_fit g2, ← List.map_append, ← flatMap_succ]
      exact ⟨_, _, rfl⟩
  · rintro a b
    simp only [mirS, List.all_cons, List.all_nil, Bool.and_true, Bool.true_and, decide_true, List.length_cons, List.length_nil, decide_eq_true_eq, Nat.zero_le, Nat.reduceLeDiff, Int.reduceLE, Int.reduceLT, Int.reducePow, Int.reduceNeg, Int.reduceToNat, ↓reduceIte, Bool.false_eq_true, Option.toList_some, Option.toList_none, List.append_nil, List.length_map]
    rfl

theorem fullTie_ok {i n : Nat} (hT : T[i]? = some fullTieD) (hn : n ≤ 20) : Ok (callF T M (m + 1) i [.int (n : Int)]) fun p => p = (.tuple ((fullT n).map pairD), []) := by
  refine call_ok hT rfl ?_
  unfold fullTieD
  simp only [mirS, List.all_cons, List.all_nil, Bool.and_true, Bool.true_and, decide_true, List.length_cons, List.length_nil, decide_eq_true_eq, Nat.zero_le, Nat.reduceLeDiff, Int.reduceLE, Int.reduceLT, Int.reducePow, Int.reduceNeg, Int.reduceToNat, ↓reduceIte, Bool.false_eq_true, Option.toList_some, Option.toList_none, List.append_nil, List.length_map, List.map_cons, List.map_nil, List.cons_append, List.nil_append, Nat.reduceSub, List.replicate, it_rng1 (n := (n : Int)) (rngOk_s (by omega) (by omega)), natCast_toNat]
  refine full_loop (cl := callF T M m) (N := M) (x := none) (y := none) (s := 0) (k := 0) (j := 0) hn (fun l a b => [some (.int (n : Int)), some l, a, b]) ?_ ?_
  · rintro i a b hi
    obtain ⟨g1, g2⟩ := row_fit hn hi
    have e1 : ((n : Int) - ((i : Int) + 1)).toNat = n - (i + 1) := by omega
    simp only [mirS, List.all_cons, List.all_nil, Bool.and_true, Bool.true_and, decide_true, List.length_cons, List.length_nil, decide_eq_true_eq, Nat.zero_le, Nat.reduceLeDiff, Int.reduceLE, Int.reduceLT, Int.reducePow, Int.reduceNeg, Int.reduceToNat, ↓reduceIte, Bool.false_eq_true, Option.toList_some, Option.toList_none, List.append_nil, List.length_map, it_rng2 (a := (i : Int) + 1) (b := (n : Int)) (rngOk_s (by omega) (by omega)) (rngOk_s (by omega) (by omega)), e1]
    refine comp_tab1 (J := fun ε => ∃ z, ε = [some (.int (n : Int)), some (.list (((List.range i).flatMap (rowT n)).map pairD)), some (.int (i : Int)), z]) (fun j => .tuple [.int (i : Int), .int ((i : Int) + 1 + (j : Int))]) ⟨_, rfl⟩ ?_ ?_
    · rintro j ε hj ⟨z, rfl⟩
      simp only [mirS, List.all_cons, List.all_nil, Bool.and_true, Bool.true_and, decide_true, List.length_cons, List.length_nil, decide_eq_true_eq, Nat.zero_le, Nat.reduceLeDiff, Int.reduceLE, Int.reduceLT, Int.reducePow, Int.reduceNeg, Int.reduceToNat, ↓reduceIte, Bool.false_eq_true, Option.toList_some, Option.toList_none, List.append_nil, List.length_map]
      exact ⟨trivial, _, rfl⟩
    · rintro ε ⟨z, rfl⟩
      simp only [mirS, List.all_cons, List.all_nil, Bool.and_true, Bool.true_and, decide_true, List.length_cons, List.length_nil, decide_eq_true_eq, Nat.zero_le, Nat.reduceLeDiff, Int.reduceLE, Int.reduceLT, Int.reducePow, Int.reduceNeg, Int.reduceToNat, ↓reduceIte, Bool.false_eq_true, Option.toList_some, Option.toList_none, List.append_nil, List.length_map, row_D, g_fit g1, g_fit g2, ← List.map_append, ← flatMap_succ]
      exact ⟨_, _, rfl⟩
  · rintro a b
    simp only [mirS, List.all_cons, List.all_nil, Bool.and_true, Bool.true_and, decide_true, List.length_cons, List.length_nil, decide_eq_true_eq, Nat.zero_le, Nat.reduceLeDiff, Int.reduceLE, Int.reduceLT, Int.reducePow, Int.reduceNeg, Int.reduceToNat, ↓reduceIte, Bool.false_eq_true, Option.toList_some, Option.toList_none, List.append_nil, List.length_map]
/-- with a condition: those that it holds of -/
theorem comp_filter {α : Type} {f : D → MEnv → Res (Option D × MEnv)} {Q : List D × MEnv → Prop} {J : MEnv → Prop} {xs : List α} (c : α → D) (ok : α → Bool) {ε : MEnv} (h0 : J ε) (hs : ∀ x ε, x ∈ xs → J ε → Ok (f (c x) ε) fun p => p.1 = (if ok x = true then some (c x) else none) ∧ J p.2)
    (hq : ∀ ε, J ε → Q ((xs.filter ok).map c, ε)) : Ok (compM f (xs.map c) ε) Q := by
  refine comp_inv (xs.map c) (fun i acc ε => acc = ((xs.take i).filter ok).map c ∧ J ε) [] ε ⟨rfl, h0⟩ ?_ ?_
  · rintro i d acc ε hd ⟨rfl, hj⟩
    rw [List.getElem?_map] at hd
    cases hx : xs[i]? with
    | none => rw [hx] at hd; cases hd
    | some x =>
      rw [hx] at hd
      cases hd
      refine (hs x ε (List.mem_of_getElem? hx) hj).mono ?_
      rintro ⟨o, ε2⟩ ⟨e, hj2⟩
      have e : o = if ok x = true then some (c x) else none := e
      subst e
      refine ⟨?_, hj2⟩
      rw [List.take_add_one, hx]
      show _ = ((xs.take i ++ [x]).filter ok).map c
      rw [List.filter_append, List.map_append]
      congr 1
      show (if ok x = true then some (c x) else none).toList = _
      cases h : ok x <;> simp [List.filter_cons, h]
  · rintro ys ε ⟨h, hj⟩
    rw [List.nil_append] at h
    subst h
    rw [List.length_map, List.take_length]
    exact hq ε hj
theorem eqv_pair (p q : Nat × Nat) : PyData.eqv (pairD p) (pairD q) = decide (p = q) := by
  unfold pairD
  simp only [PyData.eqv, PyData.eqvAll, Bool.and_true]
  rw [Bool.eq_iff_iff]
  simp only [Bool.and_eq_true, beq_iff_eq, decide_eq_true_eq]
  constructor
  · rintro ⟨h1, h2⟩
    exact Prod.ext (by omega) (by omega)
  · rintro rfl
    exact ⟨rfl, rfl⟩
theorem depth_pair (p : Nat × Nat) : (pairD p).depth = 1 := by simp [pairD, PyData.depth, PyData.depthAll]
theorem o_ne_pair {p q : Nat × Nat} : prim .ne [pairD p, pairD q] = .ok (.bool (!decide (p = q))) := by
  show ((Res.guard (dOk (pairD p) (pairD q)) >>= fun _ => .ok (PyData.eqv (pairD p) (pairD q))) >>= fun r => Res.ok (PyData.bool (!r))) = _
  rw [guard_of (by unfold dOk; rw [depth_pair, depth_pair]; rfl), bind_ok, bind_ok, eqv_pair]
theorem o_in_pairs {p : Nat × Nat} {ts : Ties} : prim .isin [pairD p, .tuple (ts.map pairD)] = .ok (.bool (decide (p ∈ ts))) := by
  show ((Res.guard (inOk (ts.map pairD) (pairD p)) >>= fun _ => .ok ((ts.map pairD).any fun y => PyData.eqv y (pairD p))) >>= fun r => Res.ok (PyData.bool r)) = _
  rw [guard_of (by unfold inOk; rw [depth_pair]; exact decide_eq_true (by omega)), bind_ok, bind_ok]
  congr 2
  rw [Bool.eq_iff_iff, List.any_eq_true, decide_eq_true_eq]
  constructor
  · rintro ⟨x, hx, h⟩
    obtain ⟨q, hq, rfl⟩ := List.mem_map.mp hx
    rw [eqv_pair, decide_eq_true_eq] at h
    exact h ▸ hq
  · intro h
    exact ⟨_, List.mem_map.mpr ⟨p, h, rfl⟩, by rw [eqv_pair, decide_eq_true_eq]⟩
end
end Mir.P
set_option exponentiation.threshold 4000
/-! Mir, part Wb: webs drawn by the laws k01 to k18. -/
namespace Mir.P
open PySem
set_option maxHeartbeats 4000000
def web3D (d : Nat) : FDef := ⟨2, 7, [0], [.set (.nm 2) (.call d [.o 0, .p .add [.o 1, .c (.int 1)]] [0]),
.set (.nm 3) (.call d [.o 0, .c (.int 6)] [0]),
.set (.nm 4) (.disp false []),
.for_ .rng [.v 2] (.nm 5) [.for_ .rng [.p .add [.o 5, .c (.int 1)], .v 2] (.nm 6) [.ite (.p .lt [.call d [.o 0, .c (.int 5)] [0], .o 3]) [.app 4 (.disp true [.v 5, .v 6])] []]],
.ret (.disp true [.v 2, .p .tuple [.o 4]])]⟩
section
variable {T : List FDef} {M m : Nat} {ns : List Int}
theorem web3_ok {i d : Nat} (hT : T[i]? = some (web3D d)) (hd : T[d]? = some drawD3) {s l : Int} {mo : Nat} (hmo : mo ≤ 9) (q0 : 0 ≤ s) (q1 : s < 2 ^ 29) : Ok (callF T M (m + 2) i [tp ns s l, .int (mo : Int)]) fun p => ∃ n us s' l', p = (webD n us, [tp ns s' l']) ∧ n ≤ mo ∧ Web n us ∧ s ≤ s' ∧ s' ≤ s + 100 := by
  refine call_ok hT rfl ?_
  unfold web3D
  simp only [mirS, List.all_cons, List.all_nil, Bool.and_true, Bool.true_and, decide_true, List.length_cons, List.length_nil, decide_eq_true_eq, Nat.zero_le, Nat.reduceLeDiff, Int.reduceLE, Int.reduceLT, Int.reducePow, Int.reduceNeg, Int.reduceToNat, ↓reduceIte, Bool.false_eq_true, Option.toList_some, Option.toList_none, List.append_nil, List.length_map, List.map_cons, List.map_nil, List.cons_append, List.nil_append, Nat.reduceSub, List.replicate]
  refine (d3 hd (by omega) (by omega) (by omega) (by omega)).mono ?_
  rintro _ ⟨v, s1, l1, rfl, hv0, hv1, a1, a2⟩
  obtain ⟨n, rfl⟩ : ∃ n : Nat, v = (n : Int) := ⟨v.toNat, by omega⟩
  have hn : n ≤ mo := by omega
  simp only [mirS, List.all_cons, List.all_nil, Bool.and_true, Bool.true_and, decide_true, List.length_cons, List.length_nil, decide_eq_true_eq, Nat.zero_le, Nat.reduceLeDiff, Int.reduceLE, Int.reduceLT, Int.reducePow, Int.reduceNeg, Int.reduceToNat, ↓reduceIte, Bool.false_eq_true, Option.toList_some, Option.toList_none, List.append_nil, List.length_map]
  refine (d3 hd (by omega) (by omega) (by decide) (by decide)).mono ?_
  rintro _ ⟨u, s2, l2, rfl, hu0, hu1, b1, b2⟩
  simp only [mirS, List.all_cons, List.all_nil, Bool.and_true, Bool.true_and, decide_true, List.length_cons, List.length_nil, decide_eq_true_eq, Nat.zero_le, Nat.reduceLeDiff, Int.reduceLE, Int.reduceLT, Int.reducePow, Int.reduceNeg, Int.reduceToNat, ↓reduceIte, Bool.false_eq_true, Option.toList_some, Option.toList_none, List.append_nil, List.length_map, it_rng1 (n := (n : Int)) (rngOk_s (by omega) (by omega)), natCast_toNat]
  refine for_rng0 (fun i ε => ∃ (us : Ties) (s' l' : Int) (y5 y6 : Option D), ε = [some (tp ns s' l'), some (.int (mo : Int)), some (.int (n : Int)), some (.int u), some (.list (us.map pairD)), y5, y6] ∧ us.Sublist ((List.range i).flatMap (rowT n)) ∧ s2 ≤ s' ∧ s' ≤ s2 + 9 * i) ⟨[], _, _, _, _, rfl, List.nil_sublist _, by omega, by omega⟩ ?_ ?_
  · rintro i ε hi ⟨us, t1, l1, y5, y6, rfl, hs, q2, q3⟩
    have hi6 : i < 9 := by omega
    have er : ((n : Int) - ((i : Int) + 1)).toNat = n - (i + 1) := by omega
    simp only [mirS, List.all_cons, List.all_nil, Bool.and_true, Bool.true_and, decide_true, List.length_cons, List.length_nil, decide_eq_true_eq, Nat.zero_le, Nat.reduceLeDiff, Int.reduceLE, Int.reduceLT, Int.reducePow, Int.reduceNeg, Int.reduceToNat, ↓reduceIte, Bool.false_eq_true, Option.toList_some, Option.toList_none, List.append_nil, List.length_map, it_rng2 (a := (i : Int) + 1) (b := (n : Int)) (rngOk_s (by omega) (by omega)) (rngOk_s (by omega) (by omega)), er]
    refine for_rng (fun j ε => ∃ (us : Ties) (t' l' : Int) (y6 : Option D), ε = [some (tp ns t' l'), some (.int (mo : Int)), some (.int (n : Int)), some (.int u), some (.list (us.map pairD)), some (.int (i : Int)), y6] ∧ us.Sublist ((List.range i).flatMap (rowT n) ++ (rowT n i).take j) ∧ t1 ≤ t' ∧ t' ≤ t1 + j) ⟨us, _, _, _, rfl, by rw [List.take_zero, List.append_nil]; exact hs, by omega, by omega⟩ ?_ ?_
    · rintro j ε hj ⟨us, t2, l2, y6, rfl, hs, q4, q5⟩
      have hj6 : j < 9 := by omega
      have tk' : (rowT n i).take (j + 1) = (rowT n i).take j ++ [(i, i + 1 + j)] := by
        rw [List.take_succ]
        unfold rowT
        rw [List.getElem?_map, List.getElem?_range hj]
        rfl
      have hl := hs.length_le
      have hfl : us.length ≤ 1000 := by
        have rf := (row_fit (n := n) (i := i) (by omega) hi).2
        rw [List.length_append, List.length_take] at hl
        omega
      simp only [mirS, List.all_cons, List.all_nil, Bool.and_true, Bool.true_and, decide_true, List.length_cons, List.length_nil, decide_eq_true_eq, Nat.zero_le, Nat.reduceLeDiff, Int.reduceLE, Int.reduceLT, Int.reducePow, Int.reduceNeg, Int.reduceToNat, ↓reduceIte, Bool.false_eq_true, Option.toList_some, Option.toList_none, List.append_nil, List.length_map]
      refine (d3 hd (by omega) (by omega) (by decide) (by decide)).mono ?_
      rintro _ ⟨w, t3, l3, rfl, hw0, hw1, c1, c2⟩
      simp only [mirS, List.all_cons, List.all_nil, Bool.and_true, Bool.true_and, decide_true, List.length_cons, List.length_nil, decide_eq_true_eq, Nat.zero_le, Nat.reduceLeDiff, Int.reduceLE, Int.reduceLT, Int.reducePow, Int.reduceNeg, Int.reduceToNat, ↓reduceIte, Bool.false_eq_true, Option.toList_some, Option.toList_none, List.append_nil, List.length_map]
      refine ok_cases (fun h1 => ?_) fun h1 => ?_
      · have e1 : PyData.tuple [.int (i : Int), .int ((i : Int) + 1 + (j : Int))] = pairD (i, i + 1 + j) := by
          unfold pairD
          congr 3
        simp only [mirS, List.all_cons, List.all_nil, Bool.and_true, Bool.true_and, decide_true, List.length_cons, List.length_nil, decide_eq_true_eq, Nat.zero_le, Nat.reduceLeDiff, Int.reduceLE, Int.reduceLT, Int.reducePow, Int.reduceNeg, Int.reduceToNat, ↓reduceIte, Bool.false_eq_true, Option.toList_some, Option.toList_none, List.append_nil, List.length_map, g_app hfl, e1]
        refine ⟨us ++ [(i, i + 1 + j)], t3, l3, some (.int ((i : Int) + 1 + (j : Int))), ?_, ?_, by omega, by omega⟩
        · rw [List.map_append]
          rfl
        · rw [tk', ← List.append_assoc]
          exact hs.append (List.Sublist.refl _)
      · simp only [mirS, List.all_cons, List.all_nil, Bool.and_true, Bool.true_and, decide_true, List.length_cons, List.length_nil, decide_eq_true_eq, Nat.zero_le, Nat.reduceLeDiff, Int.reduceLE, Int.reduceLT, Int.reducePow, Int.reduceNeg, Int.reduceToNat, ↓reduceIte, Bool.false_eq_true, Option.toList_some, Option.toList_none, List.append_nil, List.length_map]
        refine ⟨us, _, _, _, rfl, ?_, by omega, by omega⟩
        rw [tk', ← List.append_assoc]
        exact hs.trans (List.sublist_append_left _ _)
    · rintro ε ⟨us, t2, l2, y6, rfl, hs, q4, q5⟩
      simp only [mirS, List.all_cons, List.all_nil, Bool.and_true, Bool.true_and, decide_true, List.length_cons, List.length_nil, decide_eq_true_eq, Nat.zero_le, Nat.reduceLeDiff, Int.reduceLE, Int.reduceLT, Int.reducePow, Int.reduceNeg, Int.reduceToNat, ↓reduceIte, Bool.false_eq_true, Option.toList_some, Option.toList_none, List.append_nil, List.length_map]
      refine ⟨us, _, _, _, _, rfl, ?_, by omega, by omega⟩
      rw [List.take_of_length_le (by unfold rowT; rw [List.length_map, List.length_range]; exact Nat.le_refl _)] at hs
      rw [flatMap_succ]
      exact hs
  · rintro ε ⟨us, t1, l1, y5, y6, rfl, hs, q2, q3⟩
    simp only [mirS, List.all_cons, List.all_nil, Bool.and_true, Bool.true_and, decide_true, List.length_cons, List.length_nil, decide_eq_true_eq, Nat.zero_le, Nat.reduceLeDiff, Int.reduceLE, Int.reduceLT, Int.reducePow, Int.reduceNeg, Int.reduceToNat, ↓reduceIte, Bool.false_eq_true, Option.toList_some, Option.toList_none, List.append_nil, List.length_map]
    exact ⟨n, us, _, _, rfl, hn, hs, by omega, by omega⟩
end
end Mir.P
/-! Mir, part Row2: the row of the rest. -/
namespace Mir.P
open PySem
set_option maxHeartbeats 4000000
section
variable {T : List FDef} {M m : Nat}
theorem o_notin_pairs {p : Nat × Nat} {ts : Ties} : prim .notin [pairD p, .tuple (ts.map pairD)] = .ok (.bool (decide (p ∉ ts))) := by
  have h : (inD (pairD p) (.tuple (ts.map pairD)) >>= fun r => Res.ok (PyData.bool r)) = .ok (.bool (decide (p ∈ ts))) := o_in_pairs (p := p) (ts := ts)
  show (inD (pairD p) (.tuple (ts.map pairD)) >>= fun r => Res.ok (PyData.bool (!r))) = _
  cases hh : inD (pairD p) (.tuple (ts.map pairD)) with
  | bad => rw [hh] at h; cases h
  | ok r =>
    rw [hh, bind_ok] at h
    rw [bind_ok]
    injection h with h
    injection h with h
    rw [h, decide_not]
def restWebD (fw : Nat) : FDef := ⟨1, 2, [], [.ret (.disp true [.p .idx [.o 0, .c (.int 0)], .p .tuple [.comp .seq [.p .idx [.call fw [.p .idx [.o 0, .c (.int 0)]] [], .c (.int 1)]] (.nm 1) [.p .notin [.o 1, .p .idx [.o 0, .c (.int 1)]]] (.v 1)]])]⟩
def restTieD (ft : Nat) : FDef := ⟨1, 2, [], [.ret (.disp true [.p .idx [.o 0, .c (.int 0)], .p .tuple [.comp .seq [.call ft [.p .idx [.o 0, .c (.int 0)]] []] (.nm 1) [.p .notin [.o 1, .p .idx [.o 0, .c (.int 1)]]] (.v 1)]])]⟩
theorem restT_len (n : Nat) (ts : Ties) : (restT n ts).length ≤ n * n := Nat.le_trans (List.length_filter_le ..) (fullT_len n)
theorem restWeb_ok {i fw n : Nat} {ts : Ties} (hT : T[i]? = some (restWebD fw)) (hw : T[fw]? = some fullWebD) (hn : n ≤ 20) : Ok (callF T M (m + 2) i [webD n ts]) fun p => p = (webD n (restT n ts), []) := by
  refine call_ok hT rfl ?_
  unfold restWebD
  have hl := restT_len n ts
  have hl2 : n * n ≤ 20 * 20 := Nat.mul_le_mul hn hn
  simp only [mirS, List.all_cons, List.all_nil, Bool.and_true, Bool.true_and, decide_true, List.length_cons, List.length_nil, decide_eq_true_eq, Nat.zero_le, Nat.reduceLeDiff, Int.reduceLE, Int.reduceLT, Int.reducePow, Int.reduceNeg, Int.reduceToNat, ↓reduceIte, Bool.false_eq_true, Option.toList_some, Option.toList_none, List.append_nil, List.length_map, List.map_cons, List.map_nil, List.cons_append, List.nil_append, Nat.reduceSub, List.replicate, web_0]
  refine (fullWeb_ok hw hn).mono ?_
  rintro _ rfl
  simp only [mirS, List.all_cons, List.all_nil, Bool.and_true, Bool.true_and, decide_true, List.length_cons, List.length_nil, decide_eq_true_eq, Nat.zero_le, Nat.reduceLeDiff, Int.reduceLE, Int.reduceLT, Int.reducePow, Int.reduceNeg, Int.reduceToNat, ↓reduceIte, Bool.false_eq_true, Option.toList_some, Option.toList_none, List.append_nil, List.length_map, web_1]
  refine comp_filter (J := fun ε => ∃ y, ε = [some (webD n ts), y]) pairD (fun p => decide (p ∉ ts)) ⟨none, rfl⟩ ?_ ?_
  · rintro q ε hq ⟨y, rfl⟩
    by_cases hh : q ∈ ts
    · have hd : decide (q ∉ ts) = false := decide_eq_false (by simpa using hh)
      simp only [mirS, List.all_cons, List.all_nil, Bool.and_true, Bool.true_and, decide_true, List.length_cons, List.length_nil, decide_eq_true_eq, Nat.zero_le, Nat.reduceLeDiff, Int.reduceLE, Int.reduceLT, Int.reducePow, Int.reduceNeg, Int.reduceToNat, ↓reduceIte, Bool.false_eq_true, Option.toList_some, Option.toList_none, List.append_nil, List.length_map, web_1, o_notin_pairs, hd]
      exact ⟨trivial, _, rfl⟩
    · have hd : decide (q ∉ ts) = true := decide_eq_true hh
      simp only [mirS, List.all_cons, List.all_nil, Bool.and_true, Bool.true_and, decide_true, List.length_cons, List.length_nil, decide_eq_true_eq, Nat.zero_le, Nat.reduceLeDiff, Int.reduceLE, Int.reduceLT, Int.reducePow, Int.reduceNeg, Int.reduceToNat, ↓reduceIte, Bool.false_eq_true, Option.toList_some, Option.toList_none, List.append_nil, List.length_map, web_1, o_notin_pairs, hd]
      exact ⟨trivial, _, rfl⟩
  · rintro ε ⟨y, rfl⟩
    have e1 : ((fullT n).filter fun p => decide (p ∉ ts)) = restT n ts := rfl
    simp only [mirS, List.all_cons, List.all_nil, Bool.and_true, Bool.true_and, decide_true, List.length_cons, List.length_nil, decide_eq_true_eq, Nat.zero_le, Nat.reduceLeDiff, Int.reduceLE, Int.reduceLT, Int.reducePow, Int.reduceNeg, Int.reduceToNat, ↓reduceIte, Bool.false_eq_true, Option.toList_some, Option.toList_none, List.append_nil, List.length_map, List.map_cons, List.map_nil, List.cons_append, List.nil_append, Nat.reduceSub, List.replicate, e1, g_fit (show (restT n ts).length ≤ 1000 by omega)]
    rfl
theorem restTie_ok {i ft n : Nat} {ts : Ties} (hT : T[i]? = some (restTieD ft)) (hw : T[ft]? = some fullTieD) (hn : n ≤ 20) : Ok (callF T M (m + 2) i [webD n ts]) fun p => p = (webD n (restT n ts), []) := by
  refine call_ok hT rfl ?_
  unfold restTieD
  have hl := restT_len n ts
  have hl2 : n * n ≤ 20 * 20 := Nat.mul_le_mul hn hn
  simp only [mirS, List.all_cons, List.all_nil, Bool.and_true, Bool.true_and, decide_true, List.length_cons, List.length_nil, decide_eq_true_eq, Nat.zero_le, Nat.reduceLeDiff, Int.reduceLE, Int.reduceLT, Int.reducePow, Int.reduceNeg, Int.reduceToNat, ↓reduceIte, Bool.false_eq_true, Option.toList_some, Option.toList_none, List.append_nil, List.length_map, List.map_cons, List.map_nil, List.cons_append, List.nil_append, Nat.reduceSub, List.replicate, web_0]
  refine (fullTie_ok hw hn).mono ?_
  rintro _ rfl
  simp only [mirS, List.all_cons, List.all_nil, Bool.and_true, Bool.true_and, decide_true, List.length_cons, List.length_nil, decide_eq_true_eq, Nat.zero_le, Nat.reduceLeDiff, Int.reduceLE, Int.reduceLT, Int.reducePow, Int.reduceNeg, Int.reduceToNat, ↓reduceIte, Bool.false_eq_true, Option.toList_some, Option.toList_none, List.append_nil, List.length_map, web_1]
  refine comp_filter (J := fun ε => ∃ y, ε = [some (webD n ts), y]) pairD (fun p => decide (p ∉ ts)) ⟨none, rfl⟩ ?_ ?_
  · rintro q ε hq ⟨y, rfl⟩
    by_cases hh : q ∈ ts
    · have hd : decide (q ∉ ts) = false := decide_eq_false (by simpa using hh)
      simp only [mirS, List.all_cons, List.all_nil, Bool.and_true, Bool.true_and, decide_true, List.length_cons, List.length_nil, decide_eq_true_eq, Nat.zero_le, Nat.reduceLeDiff, Int.reduceLE, Int.reduceLT, Int.reducePow, Int.reduceNeg, Int.reduceToNat, ↓reduceIte, Bool.false_eq_true, Option.toList_some, Option.toList_none, List.append_nil, List.length_map, web_1, o_notin_pairs, hd]
      exact ⟨trivial, _, rfl⟩
    · have hd : decide (q ∉ ts) = true := decide_eq_true hh
      simp only [mirS, List.all_cons, List.all_nil, Bool.and_true, Bool.true_and, decide_true, List.length_cons, List.length_nil, decide_eq_true_eq, Nat.zero_le, Nat.reduceLeDiff, Int.reduceLE, Int.reduceLT, Int.reducePow, Int.reduceNeg, Int.reduceToNat, ↓reduceIte, Bool.false_eq_true, Option.toList_some, Option.toList_none, List.append_nil, List.length_map, web_1, o_notin_pairs, hd]
      exact ⟨trivial, _, rfl⟩
  · rintro ε ⟨y, rfl⟩
    have e1 : ((fullT n).filter fun p => decide (p ∉ ts)) = restT n ts := rfl
    simp only [mirS, List.all_cons, List.all_nil, Bool.and_true, Bool.true_and, decide_true, List.length_cons, List.length_nil, decide_eq_true_eq, Nat.zero_le, Nat.reduceLeDiff, Int.reduceLE, Int.reduceLT, Int.reducePow, Int.reduceNeg, Int.reduceToNat, ↓reduceIte, Bool.false_eq_true, Option.toList_some, Option.toList_none, List.append_nil, List.length_map, List.map_cons, List.map_nil, List.cons_append, List.nil_append, Nat.reduceSub, List.replicate, e1, g_fit (show (restT n ts).length ≤ 1000 by omega)]
    rfl
theorem rest_web {n : Nat} {ts : Ties} : Web n (restT n ts) := List.filter_sublist
theorem filter_in {α : Type} [DecidableEq α] {ts us : List α} (h : ts.Sublist us) : us.Nodup → us.filter (fun p => decide (p ∈ ts)) = ts := by
  induction h with
  | slnil => exact fun _ => rfl
  | cons a h ih =>
    rename_i l1 l2
    intro hn
    obtain ⟨h1, h2⟩ := List.nodup_cons.mp hn
    have : a ∉ l1 := fun c => h1 (h.subset c)
    rw [List.filter_cons, if_neg (by simpa using this), ih h2]
  | cons_cons a h ih =>
    rename_i l1 l2
    intro hn
    obtain ⟨h1, h2⟩ := List.nodup_cons.mp hn
    rw [List.filter_cons, if_pos (by simp)]
    congr 1
    refine Eq.trans (List.filter_congr fun x hx => ?_) (ih h2)
    have : x ≠ a := fun c => h1 (c ▸ hx)
    simp [this]
theorem rest_rest {n : Nat} {ts : Ties} (h : Web n ts) : restT n (restT n ts) = ts := by
  refine Eq.trans (List.filter_congr fun x hx => ?_) (filter_in h (fullT_nodup n))
  unfold restT
  simp [List.mem_filter, hx]
/-! ### strip -/
theorem atI_strip : ∀ (l : List Int) (k : Nat), atI (strip l) k = atI l k
  | [], k => rfl
  | x :: xs, k => by
    have ih := atI_strip xs
    show atI (match strip xs with | [] => if x = 0 then [] else [x] | y :: ys => x :: y :: ys) k = _
    cases hs : strip xs with
    | nil =>
      rw [hs] at ih
      cases k with
      | zero =>
        dsimp only
        split
        · rename_i h
          rw [h]
          rfl
        · rfl
      | succ k =>
        show _ = atI xs k
        rw [← ih k]
        dsimp only
        split <;> rfl
    | cons y ys =>
      rw [hs] at ih
      cases k with
      | zero => rfl
      | succ k => exact ih k
theorem strip_some {l : List Int} {k : Nat} (h : atI l k ≠ 0) : strip l ≠ [] := fun e => h (by rw [← atI_strip, e]; rfl)
/-- the row of the counts w -/
def RW (n : Nat) (w : Seq) : List Int := strip (tab (n / 2 + 1) w)
structure Row (n K : Nat) (w : Seq) : Prop where
  z : w 0 = 1
  out : ∀ k, n < 2 * k → w k = 0
  bd : ∀ k, (w k).natAbs < 2 ^ K
theorem RW_at {n K : Nat} {w : Seq} (h : Row n K w) (k : Nat) : atI (RW n w) k = w k := by
  unfold RW
  rw [atI_strip]
  unfold atI
  rw [List.getD_eq_getElem?_getD]
  by_cases hk : k < n / 2 + 1
  · rw [tab_get hk]
    rfl
  · rw [List.getElem?_eq_none (by rw [tab_len]; omega), h.out k (by omega)]
    rfl
theorem RW_len (n : Nat) (w : Seq) : (RW n w).length ≤ n / 2 + 1 := Nat.le_trans (strip_len _) (Nat.le_of_eq (tab_len ..))
theorem RW_bd {n K : Nat} {w : Seq} (h : Row n K w) {x : Int} (hx : x ∈ RW n w) : x.natAbs < 2 ^ K := by
  obtain ⟨i, hi, rfl⟩ := List.getElem_of_mem hx
  rw [atI_in hi, RW_at h]
  exact h.bd i
theorem nice_RW {n K : Nat} {w : Seq} (h : Row n K w) (hn : n ≤ 60) (hK : K ≤ 1920) : Nice (tI (RW n w)) 1 40 := nice_ints_t (fun x hx => Nat.lt_of_lt_of_le (RW_bd h hx) (pow_le hK)) (by decide) (by have := RW_len n w; omega)
theorem strip_tab {q : Nat} {w : Seq} (h : w q ≠ 0) : strip (tab (q + 1) w) = tab (q + 1) w := by
  have : tab (q + 1) w = tab q w ++ [w q] := by unfold tab; rw [List.range_succ, List.map_append]; rfl
  rw [this]
  exact strip_last h _
def cutND : FDef := ⟨1, 2, [], [.set (.nm 1) (.p .list [.o 0]),
.whl (.p .eq [.p .idx [.o 1, .p .neg [.c (.int 1)]], .c (.int 0)]) [.ex (.pop 1 [])],
.ret (.p .tuple [.o 1])]⟩
theorem cutN_ok {i : Nat} (hT : T[i]? = some cutND) {l : List Int} {d : D} (hd : prim .list [d] = .ok (.list (l.map PyData.int))) (hne : strip l ≠ []) (hM : l.length < M) : Ok (callF T M (m + 1) i [d]) fun p => p = (.tuple ((strip l).map PyData.int), []) := by
  refine call_ok hT rfl ?_
  unfold cutND
  simp only [mirS, List.all_cons, List.all_nil, Bool.and_true, Bool.true_and, decide_true, List.length_cons, List.length_nil, decide_eq_true_eq, Nat.zero_le, Nat.reduceLeDiff, Int.reduceLE, Int.reduceLT, Int.reducePow, Int.reduceNeg, Int.reduceToNat, ↓reduceIte, Bool.false_eq_true, Option.toList_some, Option.toList_none, List.append_nil, List.length_map, List.map_cons, List.map_nil, List.cons_append, List.nil_append, Nat.reduceSub, List.replicate, hd]
  rw [s_whl]
  refine while_inv (fun m ε => ∃ k : List Int, ε = [some d, some (.list (k.map PyData.int))] ∧ k.length = m ∧ strip k = strip l) ?_ M l.length _ hM ⟨l, rfl, rfl, rfl⟩
  rintro m ε ⟨k, rfl, hk, hs⟩
  rcases List.eq_nil_or_concat k with rfl | ⟨k', z, rfl⟩
  · exact absurd hs.symm hne
  · rw [List.concat_eq_append] at hs hk ⊢
    have e1 : List.map PyData.int (k' ++ [z]) = k'.map PyData.int ++ [.int z] := by
      rw [List.map_append]
      rfl
    have x1 : prim .idx [.list ((k' ++ [z]).map PyData.int), .int (-1)] = .ok (.int z) := o_idx_last (by
      rw [e1, List.length_append, List.length_singleton, Nat.add_sub_cancel, List.getElem?_append_right (Nat.le_refl _), Nat.sub_self]
      rfl)
    have pp : popD (List.map PyData.int (k' ++ [z])) [] = .ok (.int z, k'.map PyData.int) := by
      rw [e1]
      exact pop_last
    have hl : k'.length < m := by
      rw [List.length_append, List.length_singleton] at hk
      omega
    simp only [mirS, List.all_cons, List.all_nil, Bool.and_true, Bool.true_and, decide_true, List.length_cons, List.length_nil, decide_eq_true_eq, Nat.zero_le, Nat.reduceLeDiff, Int.reduceLE, Int.reduceLT, Int.reducePow, Int.reduceNeg, Int.reduceToNat, ↓reduceIte, Bool.false_eq_true, Option.toList_some, Option.toList_none, List.append_nil, List.length_map, x1, pp]
    refine ⟨_, rfl, ?_⟩
    by_cases hz : z = 0
    · subst hz
      exact .inl ⟨rfl, k'.length, hl, k', rfl, rfl, by rw [← strip_zero]; exact hs⟩
    · exact .inr ⟨decide_eq_false hz, by rw [← hs, strip_last hz]⟩
end
end Mir.P
set_option maxHeartbeats 4000000
namespace Mir.P.K05
open PySem PySem.Spec L2 Mir
def topS (i : Nat) : Stmt := PySem.Challenge.pw_pairtally_k05_webs_written_and_read.main.body.getD i (.Pass ⟨0, 0, 0, 0⟩)
/-- web_text -/
def f0 : FDef := ⟨1, 3, [], [.ret (.p (.join " ") [.p .add [.disp false [.p .str [.p .idx [.o 0, .c (.int 0)]]], .comp .seq [.p .idx [.o 0, .c (.int 1)]] (.tp [1, 2]) [] (.p .add [.p .add [.p .str [.o 1], .c (.str "-")], .p .str [.o 2]])]])]⟩
def g0 : FSig := ⟨"web_text", ["web"], [], true, []⟩
def n0 : List Str := ["web", "i", "j"]
/-- number_in -/
def f1 : FDef := ⟨1, 2, [], [.ite (.or (.not (.chain .le .le (.c (.int 1)) (.p .len [.o 0]) (.c (.int 4)))) (.not (.p .all [.comp .txt [.v 0] (.nm 1) [] (.p .isin [.o 1, .c (.str "0123456789")])]))) [.ret (.c .none)] [],
.ret (.ifx (.and (.p .eq [.p .idx [.o 0, .c (.int 0)], .c (.str "0")]) (.p .gt [.p .len [.o 0], .c (.int 1)])) (.c .none) (.p .int [.o 0]))]⟩
def g1 : FSig := ⟨"number_in", ["word"], [], false, []⟩
def n1 : List Str := ["word", "sign"]
/-- tie_in -/
def f2 : FDef := ⟨3, 6, [], [.set (.nm 3) (.comp .seq [.p (.split "-") [.o 0]] (.nm 4) [] (.call 1 [.v 4] [])),
.ite (.or (.p .ne [.p .len [.o 3], .c (.int 2)]) (.or (.p .isin [.c .none, .o 3]) (.not (.chain .lt .lt (.p .idx [.o 3, .c (.int 0)]) (.p .idx [.o 3, .c (.int 1)]) (.v 1))))) [.ret (.c .none)] [],
.set (.nm 5) (.disp true [.p .idx [.o 3, .c (.int 0)], .p .idx [.o 3, .c (.int 1)]]),
.ret (.ifx (.or (.p .isN [.o 2]) (.p .lt [.o 2, .o 5])) (.v 5) (.c .none))]⟩
def g2 : FSig := ⟨"tie_in", ["word", "many", "last"], [], false, []⟩
def n2 : List Str := ["word", "many", "last", "numbers", "one", "tie"]
/-- read_web -/
def f3 : FDef := ⟨1, 6, [], [.set (.nm 1) (.p (.split " ") [.o 0]),
.set (.nm 2) (.call 1 [.p .idx [.o 1, .c (.int 0)]] []),
.ite (.p .isN [.o 2]) [.never] [],
.set (.nm 3) (.disp false []),
.for_ .rng [.c (.int 1), .p .len [.o 1]] (.nm 4) [.set (.nm 5) (.call 2 [.p .idx [.o 1, .o 4], .v 2, .ifx (.p .ne [.o 3, .disp false []]) (.p .idx [.o 3, .p .neg [.c (.int 1)]]) (.c .none)] []),
.ite (.p .isN [.o 5]) [.never] [],
.app 3 (.v 5)],
.ret (.disp true [.v 2, .p .tuple [.o 3]])]⟩
def g3 : FSig := ⟨"read_web", ["text"], [], true, []⟩
def n3 : List Str := ["text", "words", "many", "ties", "place", "tie"]
/-- _law_feed -/
def f4 : FDef := ⟨1, 1, [], [.ret (.disp false [.p .list [.cut [.o 0] [] [.c (.int 63)]], .c (.int 0), .c (.int 0)])]⟩
def g4 : FSig := ⟨"_law_feed", ["_law_script"], [], true, []⟩
def n4 : List Str := ["_law_script"]
/-- _law_draw -/
def f5 : FDef := ⟨2, 6, [0], [.ite (.p .gt [.p .idx [.o 0, .c (.int 2)], .c (.int 0)]) [.set (.nm 2) (.p .mod [.p .idx [.o 0, .c (.int 2)], .o 1]),
.sub 0 (.c (.int 2)) (.p .fdiv [.p .idx [.o 0, .c (.int 2)], .o 1]),
.ret (.mv 2)] [],
.set (.nm 3) (.p .idx [.o 0, .c (.int 1)]),
.sub 0 (.c (.int 1)) (.p .add [.o 3, .c (.int 1)]),
.set (.nm 4) (.p .mul [.c (.int 7919), .o 3]),
.ite (.p .ne [.p .idx [.o 0, .c (.int 0)], .disp false []]) [.set (.nm 4) (.p .idx [.p .idx [.o 0, .c (.int 0)], .p .mod [.o 3, .p .len [.p .idx [.o 0, .c (.int 0)]]]])] [],
.ite (.and (.p .ge [.o 4, .p .pow [.c (.int 10), .c (.int 18)]]) (.p .lt [.o 3, .p .len [.p .idx [.o 0, .c (.int 0)]]])) [.sub 0 (.c (.int 2)) (.p .fdiv [.o 4, .o 1]),
.ret (.p .mod [.o 4, .o 1])] [],
.set (.nm 5) (.p .mod [.p .add [.p .add [.p .mod [.o 4, .c (.int 2147483647)], .p .mul [.c (.int 40692), .o 3]], .c (.int 12345)], .c (.int 2147483647)]),
.set (.nm 5) (.p .mod [.p .mul [.o 5, .p .add [.o 5, .c (.int 48271)]], .c (.int 2147483587)]),
.ret (.p .mod [.p .fdiv [.p .mod [.p .add [.p .mul [.o 5, .c (.int 69621)], .o 3], .c (.int 2147483399)], .c (.int 7)], .o 1])]⟩
def g5 : FSig := ⟨"_law_draw", ["_law_feed_here", "_law_many"], [0], true, []⟩
def n5 : List Str := ["_law_feed_here", "_law_many", "_law_found", "_law_spot", "_law_cell", "_law_mixed"]
/-- _law_web -/
def f6 : FDef := ⟨2, 7, [0], [.set (.nm 2) (.call 5 [.o 0, .p .add [.o 1, .c (.int 1)]] [0]),
.set (.nm 3) (.call 5 [.o 0, .c (.int 6)] [0]),
.set (.nm 4) (.disp false []),
.for_ .rng [.v 2] (.nm 5) [.for_ .rng [.p .add [.o 5, .c (.int 1)], .v 2] (.nm 6) [.ite (.p .lt [.call 5 [.o 0, .c (.int 5)] [0], .o 3]) [.app 4 (.disp true [.v 5, .v 6])] []]],
.ret (.disp true [.v 2, .p .tuple [.o 4]])]⟩
def g6 : FSig := ⟨"_law_web", ["_law_feed_here", "_law_most"], [0], true, []⟩
def n6 : List Str := ["_law_feed_here", "_law_most", "_law_many", "_law_often", "_law_ties", "_law_i", "_law_j"]
/-- _law_text -/
def f7 : FDef := ⟨1, 3, [], [.ret (.p (.join " ") [.p .add [.disp false [.p .str [.p .idx [.o 0, .c (.int 0)]]], .comp .seq [.p .idx [.o 0, .c (.int 1)]] (.tp [1, 2]) [] (.p .add [.p .add [.p .str [.o 1], .c (.str "-")], .p .str [.o 2]])]])]⟩
def g7 : FSig := ⟨"_law_text", ["_law_web_here"], [], true, []⟩
def n7 : List Str := ["_law_web_here", "_law_i", "_law_j"]
/-- _law_great -/
def f8 : FDef := ⟨1, 7, [0], [.set (.nm 1) (.p .idx [.disp false [.p .add [.c (.int 10), .call 5 [.o 0, .c (.int 90)] [0]], .p .add [.c (.int 100), .call 5 [.o 0, .c (.int 900)] [0]], .p .sub [.c (.int 9999), .call 5 [.o 0, .c (.int 3)] [0]]], .call 5 [.o 0, .c (.int 3)] [0]]),
.set (.nm 2) (.disp false []),
.for_ .rng [.call 5 [.o 0, .c (.int 9)] [0]] (.nm 3) [.set (.nm 4) (.call 5 [.o 0, .v 1] [0]),
.set (.nm 5) (.p .idx [.disp false [.call 5 [.o 0, .v 1] [0], .p .sub [.o 1, .c (.int 1)], .p .mod [.p .add [.o 4, .c (.int 1)], .o 1]], .call 5 [.o 0, .c (.int 3)] [0]]),
.set (.nm 6) (.disp true [.p .min [.o 4, .o 5], .p .max [.o 4, .o 5]]),
.ite (.and (.p .ne [.o 4, .o 5]) (.p .notin [.o 6, .o 2])) [.app 2 (.v 6)] []],
.ret (.disp true [.v 1, .p .tuple [.p .sorted [.o 2]]])]⟩
def g8 : FSig := ⟨"_law_great", ["_law_feed_here"], [0], true, []⟩
def n8 : List Str := ["_law_feed_here", "_law_many", "_law_ties", "_law_k", "_law_one", "_law_other", "_law_tie"]
/-- law -/
def f9 : FDef := ⟨1, 7, [], [.set (.nm 1) (.call 4 [.v 0] []),
.for_ .rng [.c (.int 6)] (.nm 2) [.set (.nm 3) (.ifx (.p .lt [.o 2, .c (.int 3)]) (.call 6 [.o 1, .c (.int 9)] [1]) (.call 8 [.o 1] [1])),
.set (.nm 4) (.p .repr [.o 3]),
.set (.nm 5) (.call 7 [.v 3] []),
.set (.nm 6) (.call 3 [.v 5] []),
.ite (.or (.p .ne [.p .repr [.o 6], .o 4]) (.or (.p .ne [.p .repr [.call 0 [.v 6] []], .p .repr [.o 5]]) (.p .ne [.p .repr [.o 6], .o 4]))) [.ret (.c (.bool false))] [],
.ite (.and (.p .lt [.o 2, .c (.int 3)]) (.or (.p .ne [.p .repr [.call 0 [.v 3] []], .p .repr [.o 5]]) (.p .ne [.p .repr [.o 3], .o 4]))) [.ret (.c (.bool false))] []],
.ret (.c (.bool true))]⟩
def g9 : FSig := ⟨"law", ["_law_script"], [], true, []⟩
def n9 : List Str := ["_law_script", "_law_feed_here", "_law_k", "_law_web_here", "_law_kept", "_law_text_here", "_law_told"]
def T : List FDef := [f0, f1, f2, f3, f4, f5, f6, f7, f8, f9]
def S : List FSig := [g0, g1, g2, g3, g4, g5, g6, g7, g8, g9]
def B : List Str := ["str", "len", "all", "int", "range", "tuple", "list", "min", "max", "sorted", "repr"]
def Cn : List (Str × D) := [("MOST_FIGURES", .int 4), ("FIGURES", .str "0123456789")]
theorem sc0 : FnScope n0 g0.ps (defScope (topS 6)) := ⟨rfl, rfl, rfl, by decide +kernel, rfl, by decide +kernel, by decide +kernel⟩
theorem ok0 : defOk (cfgOf S B Cn n0 (topS 6) g0) f0 g0 (defBody (topS 6)) = true := by decide +kernel
theorem sc1 : FnScope n1 g1.ps (defScope (topS 7)) := ⟨rfl, rfl, rfl, by decide +kernel, rfl, by decide +kernel, by decide +kernel⟩
theorem ok1 : defOk (cfgOf S B Cn n1 (topS 7) g1) f1 g1 (defBody (topS 7)) = true := by decide +kernel
theorem sc2 : FnScope n2 g2.ps (defScope (topS 8)) := ⟨rfl, rfl, rfl, by decide +kernel, rfl, by decide +kernel, by decide +kernel⟩
theorem ok2 : defOk (cfgOf S B Cn n2 (topS 8) g2) f2 g2 (defBody (topS 8)) = true := by decide +kernel
theorem sc3 : FnScope n3 g3.ps (defScope (topS 9)) := ⟨rfl, rfl, rfl, by decide +kernel, rfl, by decide +kernel, by decide +kernel⟩
theorem ok3 : defOk (cfgOf S B Cn n3 (topS 9) g3) f3 g3 (defBody (topS 9)) = true := by decide +kernel
theorem sc4 : FnScope n4 g4.ps (defScope (topS 11)) := ⟨rfl, rfl, rfl, by decide +kernel, rfl, by decide +kernel, by decide +kernel⟩
theorem ok4 : defOk (cfgOf S B Cn n4 (topS 11) g4) f4 g4 (defBody (topS 11)) = true := by decide +kernel
theorem sc5 : FnScope n5 g5.ps (defScope (topS 12)) := ⟨rfl, rfl, rfl, by decide +kernel, rfl, by decide +kernel, by decide +kernel⟩
theorem ok5 : defOk (cfgOf S B Cn n5 (topS 12) g5) f5 g5 (defBody (topS 12)) = true := by decide +kernel
theorem sc6 : FnScope n6 g6.ps (defScope (topS 13)) := ⟨rfl, rfl, rfl, by decide +kernel, rfl, by decide +kernel, by decide +kernel⟩
theorem ok6 : defOk (cfgOf S B Cn n6 (topS 13) g6) f6 g6 (defBody (topS 13)) = true := by decide +kernel
theorem sc7 : FnScope n7 g7.ps (defScope (topS 14)) := ⟨rfl, rfl, rfl, by decide +kernel, rfl, by decide +kernel, by decide +kernel⟩
theorem ok7 : defOk (cfgOf S B Cn n7 (topS 14) g7) f7 g7 (defBody (topS 14)) = true := by decide +kernel
theorem sc8 : FnScope n8 g8.ps (defScope (topS 15)) := ⟨rfl, rfl, rfl, by decide +kernel, rfl, by decide +kernel, by decide +kernel⟩
theorem ok8 : defOk (cfgOf S B Cn n8 (topS 15) g8) f8 g8 (defBody (topS 15)) = true := by decide +kernel
theorem sc9 : FnScope n9 g9.ps (defScope (topS 16)) := ⟨rfl, rfl, rfl, by decide +kernel, rfl, by decide +kernel, by decide +kernel⟩
theorem ok9 : defOk (cfgOf S B Cn n9 (topS 16) g9) f9 g9 (defBody (topS 16)) = true := by decide +kernel
theorem tabAll {K : PySem.W.Frag} {h : Heap} {mg : Str → Option Value} (X : K.In h) (G : h.Ns mainGlobals mg)
    {a0 : Addr} {oc0 kV0 dc0 pm0 cd0 ct0 : Value} {od0 an0 : Option Addr} {sl0 : Array (Option Value)}
    {a1 : Addr} {oc1 kV1 dc1 pm1 cd1 ct1 : Value} {od1 an1 : Option Addr} {sl1 : Array (Option Value)}
    {a2 : Addr} {oc2 kV2 dc2 pm2 cd2 ct2 : Value} {od2 an2 : Option Addr} {sl2 : Array (Option Value)}
    {a3 : Addr} {oc3 kV3 dc3 pm3 cd3 ct3 : Value} {od3 an3 : Option Addr} {sl3 : Array (Option Value)}
    {a4 : Addr} {oc4 kV4 dc4 pm4 cd4 ct4 : Value} {od4 an4 : Option Addr} {sl4 : Array (Option Value)}
    {a5 : Addr} {oc5 kV5 dc5 pm5 cd5 ct5 : Value} {od5 an5 : Option Addr} {sl5 : Array (Option Value)}
    {a6 : Addr} {oc6 kV6 dc6 pm6 cd6 ct6 : Value} {od6 an6 : Option Addr} {sl6 : Array (Option Value)}
    {a7 : Addr} {oc7 kV7 dc7 pm7 cd7 ct7 : Value} {od7 an7 : Option Addr} {sl7 : Array (Option Value)}
    {a8 : Addr} {oc8 kV8 dc8 pm8 cd8 ct8 : Value} {od8 an8 : Option Addr} {sl8 : Array (Option Value)}
    {a9 : Addr} {oc9 kV9 dc9 pm9 cd9 ct9 : Value} {od9 an9 : Option Addr} {sl9 : Array (Option Value)}
    {u0 : Tok}
    {u1 : Tok}
    (x0 : PySem.W.nsIn K mainGlobals "web_text" = some (some (.ref a0))) (l0 : K.lookup a0 = some ⟨oc0, od0, .func (PySem.W.fnOf "web_text" "web_text" (defArgs (topS 6)) (defBody (topS 6)) (defScope (topS 6)) .none kV0 dc0 pm0 an0 cd0 ct0), sl0⟩) (c0 : PySem.W.codeIn K cd0 "web_text" = true) (k0 : PySem.W.keepIn K (.ref a0) = true)
    (x1 : PySem.W.nsIn K mainGlobals "number_in" = some (some (.ref a1))) (l1 : K.lookup a1 = some ⟨oc1, od1, .func (PySem.W.fnOf "number_in" "number_in" (defArgs (topS 7)) (defBody (topS 7)) (defScope (topS 7)) .none kV1 dc1 pm1 an1 cd1 ct1), sl1⟩) (c1 : PySem.W.codeIn K cd1 "number_in" = true) (k1 : PySem.W.keepIn K (.ref a1) = true)
    (x2 : PySem.W.nsIn K mainGlobals "tie_in" = some (some (.ref a2))) (l2 : K.lookup a2 = some ⟨oc2, od2, .func (PySem.W.fnOf "tie_in" "tie_in" (defArgs (topS 8)) (defBody (topS 8)) (defScope (topS 8)) .none kV2 dc2 pm2 an2 cd2 ct2), sl2⟩) (c2 : PySem.W.codeIn K cd2 "tie_in" = true) (k2 : PySem.W.keepIn K (.ref a2) = true)
    (x3 : PySem.W.nsIn K mainGlobals "read_web" = some (some (.ref a3))) (l3 : K.lookup a3 = some ⟨oc3, od3, .func (PySem.W.fnOf "read_web" "read_web" (defArgs (topS 9)) (defBody (topS 9)) (defScope (topS 9)) .none kV3 dc3 pm3 an3 cd3 ct3), sl3⟩) (c3 : PySem.W.codeIn K cd3 "read_web" = true) (k3 : PySem.W.keepIn K (.ref a3) = true)
    (x4 : PySem.W.nsIn K mainGlobals "_law_feed" = some (some (.ref a4))) (l4 : K.lookup a4 = some ⟨oc4, od4, .func (PySem.W.fnOf "_law_feed" "_law_feed" (defArgs (topS 11)) (defBody (topS 11)) (defScope (topS 11)) .none kV4 dc4 pm4 an4 cd4 ct4), sl4⟩) (c4 : PySem.W.codeIn K cd4 "_law_feed" = true) (k4 : PySem.W.keepIn K (.ref a4) = true)
    (x5 : PySem.W.nsIn K mainGlobals "_law_draw" = some (some (.ref a5))) (l5 : K.lookup a5 = some ⟨oc5, od5, .func (PySem.W.fnOf "_law_draw" "_law_draw" (defArgs (topS 12)) (defBody (topS 12)) (defScope (topS 12)) .none kV5 dc5 pm5 an5 cd5 ct5), sl5⟩) (c5 : PySem.W.codeIn K cd5 "_law_draw" = true) (k5 : PySem.W.keepIn K (.ref a5) = true)
    (x6 : PySem.W.nsIn K mainGlobals "_law_web" = some (some (.ref a6))) (l6 : K.lookup a6 = some ⟨oc6, od6, .func (PySem.W.fnOf "_law_web" "_law_web" (defArgs (topS 13)) (defBody (topS 13)) (defScope (topS 13)) .none kV6 dc6 pm6 an6 cd6 ct6), sl6⟩) (c6 : PySem.W.codeIn K cd6 "_law_web" = true) (k6 : PySem.W.keepIn K (.ref a6) = true)
    (x7 : PySem.W.nsIn K mainGlobals "_law_text" = some (some (.ref a7))) (l7 : K.lookup a7 = some ⟨oc7, od7, .func (PySem.W.fnOf "_law_text" "_law_text" (defArgs (topS 14)) (defBody (topS 14)) (defScope (topS 14)) .none kV7 dc7 pm7 an7 cd7 ct7), sl7⟩) (c7 : PySem.W.codeIn K cd7 "_law_text" = true) (k7 : PySem.W.keepIn K (.ref a7) = true)
    (x8 : PySem.W.nsIn K mainGlobals "_law_great" = some (some (.ref a8))) (l8 : K.lookup a8 = some ⟨oc8, od8, .func (PySem.W.fnOf "_law_great" "_law_great" (defArgs (topS 15)) (defBody (topS 15)) (defScope (topS 15)) .none kV8 dc8 pm8 an8 cd8 ct8), sl8⟩) (c8 : PySem.W.codeIn K cd8 "_law_great" = true) (k8 : PySem.W.keepIn K (.ref a8) = true)
    (x9 : PySem.W.nsIn K mainGlobals "law" = some (some (.ref a9))) (l9 : K.lookup a9 = some ⟨oc9, od9, .func (PySem.W.fnOf "law" "law" (defArgs (topS 16)) (defBody (topS 16)) (defScope (topS 16)) .none kV9 dc9 pm9 an9 cd9 ct9), sl9⟩) (c9 : PySem.W.codeIn K cd9 "law" = true) (k9 : PySem.W.keepIn K (.ref a9) = true)
    (y0 : PySem.W.nsIn K mainGlobals "MOST_FIGURES" = some (some (.int 4 u0)))
    (y1 : PySem.W.nsIn K mainGlobals "FIGURES" = some (some (.str "0123456789" u1)))
    (z0 : PySem.W.nsIn K mainGlobals "str" = some none) (z1 : PySem.W.nsIn K mainGlobals "len" = some none) (z2 : PySem.W.nsIn K mainGlobals "all" = some none) (z3 : PySem.W.nsIn K mainGlobals "int" = some none) (z4 : PySem.W.nsIn K mainGlobals "range" = some none) (z5 : PySem.W.nsIn K mainGlobals "tuple" = some none) (z6 : PySem.W.nsIn K mainGlobals "list" = some none) (z7 : PySem.W.nsIn K mainGlobals "min" = some none) (z8 : PySem.W.nsIn K mainGlobals "max" = some none) (z9 : PySem.W.nsIn K mainGlobals "sorted" = some none) (z10 : PySem.W.nsIn K mainGlobals "repr" = some none) : Tabled K mg S T B Cn ∧ (∀ b ∈ B, mg b = none) ∧ CnsOk K mg Cn := by
  refine ⟨fun i fs h => ?_, fun b hb => ?_, fun p hp => ?_⟩
  · exact match i, h with
      | 0, h => by
        cases h
        have F := fun_mk (st := topS 6) l0 c0 k0
        exact ⟨a0, _, ⟨f0, topS 6, n0, "web_text", rfl, F, sc0, ok0⟩, PySem.W.mg_of X G x0, F.binds (ps := g0.ps) fun _ _ _ _ _ _ us hl => match us, hl with | [_], _ => rfl⟩
      | 1, h => by
        cases h
        have F := fun_mk (st := topS 7) l1 c1 k1
        exact ⟨a1, _, ⟨f1, topS 7, n1, "number_in", rfl, F, sc1, ok1⟩, PySem.W.mg_of X G x1, F.binds (ps := g1.ps) fun _ _ _ _ _ _ us hl => match us, hl with | [_], _ => rfl⟩
      | 2, h => by
        cases h
        have F := fun_mk (st := topS 8) l2 c2 k2
        exact ⟨a2, _, ⟨f2, topS 8, n2, "tie_in", rfl, F, sc2, ok2⟩, PySem.W.mg_of X G x2, F.binds (ps := g2.ps) fun _ _ _ _ _ _ us hl => match us, hl with | [_, _, _], _ => rfl⟩
      | 3, h => by
        cases h
        have F := fun_mk (st := topS 9) l3 c3 k3
        exact ⟨a3, _, ⟨f3, topS 9, n3, "read_web", rfl, F, sc3, ok3⟩, PySem.W.mg_of X G x3, F.binds (ps := g3.ps) fun _ _ _ _ _ _ us hl => match us, hl with | [_], _ => rfl⟩
      | 4, h => by
        cases h
        have F := fun_mk (st := topS 11) l4 c4 k4
        exact ⟨a4, _, ⟨f4, topS 11, n4, "_law_feed", rfl, F, sc4, ok4⟩, PySem.W.mg_of X G x4, F.binds (ps := g4.ps) fun _ _ _ _ _ _ us hl => match us, hl with | [_], _ => rfl⟩
      | 5, h => by
        cases h
        have F := fun_mk (st := topS 12) l5 c5 k5
        exact ⟨a5, _, ⟨f5, topS 12, n5, "_law_draw", rfl, F, sc5, ok5⟩, PySem.W.mg_of X G x5, F.binds (ps := g5.ps) fun _ _ _ _ _ _ us hl => match us, hl with | [_, _], _ => rfl⟩
      | 6, h => by
        cases h
        have F := fun_mk (st := topS 13) l6 c6 k6
        exact ⟨a6, _, ⟨f6, topS 13, n6, "_law_web", rfl, F, sc6, ok6⟩, PySem.W.mg_of X G x6, F.binds (ps := g6.ps) fun _ _ _ _ _ _ us hl => match us, hl with | [_, _], _ => rfl⟩
      | 7, h => by
        cases h
        have F := fun_mk (st := topS 14) l7 c7 k7
        exact ⟨a7, _, ⟨f7, topS 14, n7, "_law_text", rfl, F, sc7, ok7⟩, PySem.W.mg_of X G x7, F.binds (ps := g7.ps) fun _ _ _ _ _ _ us hl => match us, hl with | [_], _ => rfl⟩
      | 8, h => by
        cases h
        have F := fun_mk (st := topS 15) l8 c8 k8
        exact ⟨a8, _, ⟨f8, topS 15, n8, "_law_great", rfl, F, sc8, ok8⟩, PySem.W.mg_of X G x8, F.binds (ps := g8.ps) fun _ _ _ _ _ _ us hl => match us, hl with | [_], _ => rfl⟩
      | 9, h => by
        cases h
        have F := fun_mk (st := topS 16) l9 c9 k9
        exact ⟨a9, _, ⟨f9, topS 16, n9, "law", rfl, F, sc9, ok9⟩, PySem.W.mg_of X G x9, F.binds (ps := g9.ps) fun _ _ _ _ _ _ us hl => match us, hl with | [_], _ => rfl⟩
      | n + 10, h => by cases h
  · simp only [B, List.mem_cons, List.not_mem_nil, or_false] at hb
    rcases hb with rfl | rfl | rfl | rfl | rfl | rfl | rfl | rfl | rfl | rfl | rfl
    · exact PySem.W.mg_none_of X G z0
    · exact PySem.W.mg_none_of X G z1
    · exact PySem.W.mg_none_of X G z2
    · exact PySem.W.mg_none_of X G z3
    · exact PySem.W.mg_none_of X G z4
    · exact PySem.W.mg_none_of X G z5
    · exact PySem.W.mg_none_of X G z6
    · exact PySem.W.mg_none_of X G z7
    · exact PySem.W.mg_none_of X G z8
    · exact PySem.W.mg_none_of X G z9
    · exact PySem.W.mg_none_of X G z10
  · simp only [Cn, List.mem_cons, List.not_mem_nil, or_false] at hp
    rcases hp with rfl | rfl
    · exact ⟨.int 4, _, PySem.W.mg_of X G y0, ⟨_, rfl⟩, fun _ => .int _, rfl⟩
    · exact ⟨.str "0123456789", _, PySem.W.mg_of X G y1, ⟨_, rfl⟩, fun _ => .str _, rfl⟩
end Mir.P.K05
set_option exponentiation.threshold 4000
namespace Mir.P.K05
open PySem
set_option maxHeartbeats 4000000
section
variable {M n : Nat} {ns : List Int}
theorem dr {m : Nat} {s l many : Int} (h0 : 0 ≤ s) (h1 : s < 2 ^ 40) (hm : 0 < many) (hd : many < 2 ^ 200) : Ok (callF T M (m + 1) 5 [tp ns s l, .int many]) fun p => ∃ v s' l', p = (.int v, [tp ns s' l']) ∧ 0 ≤ v ∧ v < many ∧ s ≤ s' ∧ s' ≤ s + 1 := d3 rfl h0 h1 hm hd
/-- a web that can be written -/
structure Wr (m : Nat) (ts : Ties) : Prop where
  lt : m < 10000
  mem : ∀ p ∈ ts, p.1 < p.2 ∧ p.2 < m
  rise : ts.Pairwise ltN
  few : ts.length ≤ 100
theorem notin_l {p : Nat × Nat} {ts : Ties} : prim .notin [pairD p, .list (ts.map pairD)] = .ok (.bool (decide (p ∉ ts))) := o_notin_pairs
theorem great_ok {s l : Int} (q0 : 0 ≤ s) (q1 : s < 2 ^ 29) : Ok (callF T M (n + 2) 8 [tp ns s l]) fun p => ∃ m ts s' l', p = (webD m ts, [tp ns s' l']) ∧ Wr m ts ∧ s ≤ s' ∧ s' ≤ s + 100 := by
  refine call_ok (fd := f8) rfl rfl ?_
  unfold f8
  simp only [mirS, List.all_cons, List.all_nil, Bool.and_true, Bool.true_and, decide_true, List.length_cons, List.length_nil, decide_eq_true_eq, Nat.zero_le, Nat.reduceLeDiff, Int.reduceLE, Int.reduceLT, Int.reducePow, Int.reduceNeg, Int.reduceToNat, ↓reduceIte, Bool.false_eq_true, Option.toList_some, Option.toList_none, List.append_nil, List.length_map, List.map_cons, List.map_nil, List.cons_append, List.nil_append, Nat.reduceSub, List.replicate]
  refine (dr (by omega) (by omega) (by decide) (by decide)).mono ?_
  rintro _ ⟨v1, s1, l1, rfl, a1, a2, a3, a4⟩
  simp only [mirS, List.all_cons, List.all_nil, Bool.and_true, Bool.true_and, decide_true, List.length_cons, List.length_nil, decide_eq_true_eq, Nat.zero_le, Nat.reduceLeDiff, Int.reduceLE, Int.reduceLT, Int.reducePow, Int.reduceNeg, Int.reduceToNat, ↓reduceIte, Bool.false_eq_true, Option.toList_some, Option.toList_none, List.append_nil, List.length_map]
  refine (dr (by omega) (by omega) (by decide) (by decide)).mono ?_
  rintro _ ⟨v2, s2, l2, rfl, b1, b2, b3, b4⟩
  simp only [mirS, List.all_cons, List.all_nil, Bool.and_true, Bool.true_and, decide_true, List.length_cons, List.length_nil, decide_eq_true_eq, Nat.zero_le, Nat.reduceLeDiff, Int.reduceLE, Int.reduceLT, Int.reducePow, Int.reduceNeg, Int.reduceToNat, ↓reduceIte, Bool.false_eq_true, Option.toList_some, Option.toList_none, List.append_nil, List.length_map]
  refine (dr (by omega) (by omega) (by decide) (by decide)).mono ?_
  rintro _ ⟨v3, s3, l3, rfl, c1, c2, c3, c4⟩
  simp only [mirS, List.all_cons, List.all_nil, Bool.and_true, Bool.true_and, decide_true, List.length_cons, List.length_nil, decide_eq_true_eq, Nat.zero_le, Nat.reduceLeDiff, Int.reduceLE, Int.reduceLT, Int.reducePow, Int.reduceNeg, Int.reduceToNat, ↓reduceIte, Bool.false_eq_true, Option.toList_some, Option.toList_none, List.append_nil, List.length_map, List.map_cons, List.map_nil, List.cons_append, List.nil_append, Nat.reduceSub, List.replicate]
  refine (dr (by omega) (by omega) (by decide) (by decide)).mono ?_
  rintro _ ⟨v4, s4, l4, rfl, d1, d2, d3, d4⟩
  obtain ⟨w, ew, hw1, hw2⟩ := menu_P [10 + v1, 100 + v2, 9999 - v3] (P := fun x => 10 ≤ x ∧ x < 10000) (by
    intro x hx
    simp only [List.mem_cons, List.not_mem_nil, or_false] at hx
    rcases hx with rfl | rfl | rfl <;> omega) d1 d2
  have ew' : prim .idx [.list [.int (10 + v1), .int (100 + v2), .int (9999 - v3)], .int v4] = .ok (.int w) := ew
  obtain ⟨m, rfl⟩ : ∃ m : Nat, w = (m : Int) := ⟨w.toNat, by omega⟩
  simp only [mirS, List.all_cons, List.all_nil, Bool.and_true, Bool.true_and, decide_true, List.length_cons, List.length_nil, decide_eq_true_eq, Nat.zero_le, Nat.reduceLeDiff, Int.reduceLE, Int.reduceLT, Int.reducePow, Int.reduceNeg, Int.reduceToNat, ↓reduceIte, Bool.false_eq_true, Option.toList_some, Option.toList_none, List.append_nil, List.length_map, List.map_cons, List.map_nil, List.cons_append, List.nil_append, Nat.reduceSub, List.replicate, ew']
  refine (dr (by omega) (by omega) (by decide) (by decide)).mono ?_
  rintro _ ⟨v5, s5, l5, rfl, e1, e2, e3, e4⟩
  simp only [mirS, List.all_cons, List.all_nil, Bool.and_true, Bool.true_and, decide_true, List.length_cons, List.length_nil, decide_eq_true_eq, Nat.zero_le, Nat.reduceLeDiff, Int.reduceLE, Int.reduceLT, Int.reducePow, Int.reduceNeg, Int.reduceToNat, ↓reduceIte, Bool.false_eq_true, Option.toList_some, Option.toList_none, List.append_nil, List.length_map, it_rng1 (n := v5) (rngOk_s (by omega) (by omega))]
  refine for_rng0 (fun k ε => ∃ (ts : Ties) (s' l' : Int) (y3 y4 y5 y6 : Option D), ε = [some (tp ns s' l'), some (.int (m : Int)), some (.list (ts.map pairD)), y3, y4, y5, y6] ∧ ts.Nodup ∧ (∀ p ∈ ts, p.1 < p.2 ∧ p.2 < m) ∧ ts.length ≤ k ∧ s5 ≤ s' ∧ s' ≤ s5 + 3 * k) ⟨[], _, _, _, _, _, _, rfl, List.nodup_nil, fun p hp => (by cases hp), Nat.le_refl _, by omega, by omega⟩ ?_ ?_
  · rintro k ε hk ⟨ts, t1, l1, y3, y4, y5, y6, rfl, nd, mem, len, q2, q3⟩
    have hk9 : k < 9 := by omega
    simp only [mirS, List.all_cons, List.all_nil, Bool.and_true, Bool.true_and, decide_true, List.length_cons, List.length_nil, decide_eq_true_eq, Nat.zero_le, Nat.reduceLeDiff, Int.reduceLE, Int.reduceLT, Int.reducePow, Int.reduceNeg, Int.reduceToNat, ↓reduceIte, Bool.false_eq_true, Option.toList_some, Option.toList_none, List.append_nil, List.length_map]
    refine (dr (by omega) (by omega) (by omega) (by omega)).mono ?_
    rintro _ ⟨a, t2, l2, rfl, g1, g2, g3, g4⟩
    simp only [mirS, List.all_cons, List.all_nil, Bool.and_true, Bool.true_and, decide_true, List.length_cons, List.length_nil, decide_eq_true_eq, Nat.zero_le, Nat.reduceLeDiff, Int.reduceLE, Int.reduceLT, Int.reducePow, Int.reduceNeg, Int.reduceToNat, ↓reduceIte, Bool.false_eq_true, Option.toList_some, Option.toList_none, List.append_nil, List.length_map]
    refine (dr (by omega) (by omega) (by omega) (by omega)).mono ?_
    rintro _ ⟨b, t3, l3, rfl, h1, h2, h3, h4⟩
    have em : prim .mod [.int (a + 1), .int (m : Int)] = .ok (.int ((a + 1) % (m : Int))) := o_mod (by omega)
    simp only [mirS, List.all_cons, List.all_nil, Bool.and_true, Bool.true_and, decide_true, List.length_cons, List.length_nil, decide_eq_true_eq, Nat.zero_le, Nat.reduceLeDiff, Int.reduceLE, Int.reduceLT, Int.reducePow, Int.reduceNeg, Int.reduceToNat, ↓reduceIte, Bool.false_eq_true, Option.toList_some, Option.toList_none, List.append_nil, List.length_map, List.map_cons, List.map_nil, List.cons_append, List.nil_append, Nat.reduceSub, List.replicate, em]
    refine (dr (by omega) (by omega) (by decide) (by decide)).mono ?_
    rintro _ ⟨c, t4, l4, rfl, i1, i2, i3, i4⟩
    obtain ⟨x, ex, hx1, hx2⟩ := menu_P [b, (m : Int) - 1, (a + 1) % (m : Int)] (P := fun x => 0 ≤ x ∧ x < (m : Int)) (by
      intro x hx
      simp only [List.mem_cons, List.not_mem_nil, or_false] at hx
      rcases hx with rfl | rfl | rfl
      · omega
      · omega
      · exact ⟨Int.emod_nonneg _ (by omega), Int.emod_lt_of_pos _ (by omega)⟩) i1 i2
    have ex' : prim .idx [.list [.int b, .int ((m : Int) - 1), .int ((a + 1) % (m : Int))], .int c] = .ok (.int x) := ex
    obtain ⟨a', rfl⟩ : ∃ a' : Nat, a = (a' : Int) := ⟨a.toNat, by omega⟩
    obtain ⟨x', rfl⟩ : ∃ x' : Nat, x = (x' : Int) := ⟨x.toNat, by omega⟩
    have m1 : min (a' : Int) (x' : Int) = ((min a' x' : Nat) : Int) := by omega
    have m2 : max (a' : Int) (x' : Int) = ((max a' x' : Nat) : Int) := by omega
    have ep : PyData.tuple [.int ((min a' x' : Nat) : Int), .int ((max a' x' : Nat) : Int)] = pairD (min a' x', max a' x') := rfl
    simp only [mirS, List.all_cons, List.all_nil, Bool.and_true, Bool.true_and, decide_true, List.length_cons, List.length_nil, decide_eq_true_eq, Nat.zero_le, Nat.reduceLeDiff, Int.reduceLE, Int.reduceLT, Int.reducePow, Int.reduceNeg, Int.reduceToNat, ↓reduceIte, Bool.false_eq_true, Option.toList_some, Option.toList_none, List.append_nil, List.length_map, List.map_cons, List.map_nil, List.cons_append, List.nil_append, Nat.reduceSub, List.replicate, ex', m1, m2, ep, notin_l]
    by_cases hne : (a' : Int) = (x' : Int)
    · simp only [mirS, List.all_cons, List.all_nil, Bool.and_true, Bool.true_and, decide_true, List.length_cons, List.length_nil, decide_eq_true_eq, Nat.zero_le, Nat.reduceLeDiff, Int.reduceLE, Int.reduceLT, Int.reducePow, Int.reduceNeg, Int.reduceToNat, ↓reduceIte, Bool.false_eq_true, Option.toList_some, Option.toList_none, List.append_nil, List.length_map, hne, decide_true, Bool.not_true]
      exact ⟨ts, _, _, _, _, _, _, rfl, nd, mem, by omega, by omega, by omega⟩
    · simp only [mirS, List.all_cons, List.all_nil, Bool.and_true, Bool.true_and, decide_true, List.length_cons, List.length_nil, decide_eq_true_eq, Nat.zero_le, Nat.reduceLeDiff, Int.reduceLE, Int.reduceLT, Int.reducePow, Int.reduceNeg, Int.reduceToNat, ↓reduceIte, Bool.false_eq_true, Option.toList_some, Option.toList_none, List.append_nil, List.length_map, hne, decide_false, Bool.not_false]
      by_cases hin : (min a' x', max a' x') ∈ ts
      · simp only [mirS, List.all_cons, List.all_nil, Bool.and_true, Bool.true_and, decide_true, List.length_cons, List.length_nil, decide_eq_true_eq, Nat.zero_le, Nat.reduceLeDiff, Int.reduceLE, Int.reduceLT, Int.reducePow, Int.reduceNeg, Int.reduceToNat, ↓reduceIte, Bool.false_eq_true, Option.toList_some, Option.toList_none, List.append_nil, List.length_map, hin, not_true, decide_false]
        exact ⟨ts, _, _, _, _, _, _, rfl, nd, mem, by omega, by omega, by omega⟩
      · simp only [mirS, List.all_cons, List.all_nil, Bool.and_true, Bool.true_and, decide_true, List.length_cons, List.length_nil, decide_eq_true_eq, Nat.zero_le, Nat.reduceLeDiff, Int.reduceLE, Int.reduceLT, Int.reducePow, Int.reduceNeg, Int.reduceToNat, ↓reduceIte, Bool.false_eq_true, Option.toList_some, Option.toList_none, List.append_nil, List.length_map, hin, not_false_eq_true, decide_true, g_app (show ts.length ≤ 1000 by omega)]
        refine ⟨ts ++ [(min a' x', max a' x')], t4, l4, some (.int (k : Int)), some (.int (a' : Int)), some (.int (x' : Int)), some (pairD (min a' x', max a' x')), ?_, ?_, fun p hp => ?_, ?_, by omega, by omega⟩
        · rw [List.map_append]
          rfl
        · refine List.nodup_append.mpr ⟨nd, List.pairwise_singleton _ _, fun x hx y hy e => hin ?_⟩
          cases List.mem_singleton.mp hy
          exact e ▸ hx
        · rcases List.mem_append.mp hp with hp | hp
          · exact mem p hp
          · cases List.mem_singleton.mp hp
            simp only
            omega
        · rw [List.length_append, List.length_singleton]
          omega
  · rintro ε ⟨ts, t1, l1, y3, y4, y5, y6, rfl, nd, mem, len, q2, q3⟩
    obtain ⟨qs, qp, qe, qr⟩ := ord_rise nd
    simp only [mirS, List.all_cons, List.all_nil, Bool.and_true, Bool.true_and, decide_true, List.length_cons, List.length_nil, decide_eq_true_eq, Nat.zero_le, Nat.reduceLeDiff, Int.reduceLE, Int.reduceLT, Int.reducePow, Int.reduceNeg, Int.reduceToNat, ↓reduceIte, Bool.false_eq_true, Option.toList_some, Option.toList_none, List.append_nil, List.length_map, o_sorted_l (show ts.length ≤ 1000 by omega), qe]
    refine ⟨m, qs, _, _, rfl, ⟨by omega, fun p hp => mem p (qp.mem_iff.mp hp), qr, by rw [qp.length_eq]; omega⟩, by omega, by omega⟩
theorem web_ok {s l : Int} (q0 : 0 ≤ s) (q1 : s < 2 ^ 29) : Ok (callF T M (n + 2) 6 [tp ns s l, .int 9]) fun p => ∃ m ts s' l', p = (webD m ts, [tp ns s' l']) ∧ Wr m ts ∧ s ≤ s' ∧ s' ≤ s + 100 := by
  refine (web3_ok (T := T) (i := 6) (d := 5) (mo := 9) rfl rfl (by decide) q0 q1).mono ?_
  rintro _ ⟨m, ts, s', l', rfl, hm, hw, a1, a2⟩
  have := hw.len
  have : m * m ≤ 9 * 9 := Nat.mul_le_mul hm hm
  exact ⟨m, ts, s', l', rfl, ⟨by omega, fun p hp => hw.mem hp, hw.rise, by omega⟩, a1, a2⟩
theorem law_ok (h : ns.length ≤ 63) : Ok (callF T M (n + 5) 9 [.list (ns.map PyData.int)]) fun p => p = (.bool true, []) := by
  refine call_ok (fd := f9) rfl rfl ?_
  unfold f9
  simp only [mirS, List.all_cons, List.all_nil, Bool.and_true, Bool.true_and, decide_true, List.length_cons, List.length_nil, decide_eq_true_eq, Nat.zero_le, Nat.reduceLeDiff, Int.reduceLE, Int.reduceLT, Int.reducePow, Int.reduceNeg, Int.reduceToNat, ↓reduceIte, Bool.false_eq_true, Option.toList_some, Option.toList_none, List.append_nil, List.length_map, List.map_cons, List.map_nil, List.cons_append, List.nil_append, Nat.reduceSub, List.replicate]
  refine (feed3_ok (T := T) (i := 4) rfl h).mono ?_
  rintro _ rfl
  simp only [mirS, List.all_cons, List.all_nil, Bool.and_true, Bool.true_and, decide_true, List.length_cons, List.length_nil, decide_eq_true_eq, Nat.zero_le, Nat.reduceLeDiff, Int.reduceLE, Int.reduceLT, Int.reducePow, Int.reduceNeg, Int.reduceToNat, ↓reduceIte, Bool.false_eq_true, Option.toList_some, Option.toList_none, List.append_nil, List.length_map, it_rng1 (n := 6) (rngOk_s (by omega) (by omega))]
  refine for_rng0 (n := 6) (fun k ε => ∃ (s l : Int) (y2 y3 y4 y5 y6 : Option D), ε = [some (.list (ns.map PyData.int)), some (tp ns s l), y2, y3, y4, y5, y6] ∧ 0 ≤ s ∧ s ≤ 100 * k) ⟨0, 0, _, _, _, _, _, rfl, by omega, by omega⟩ ?_ ?_
  · rintro k ε hk ⟨s, l, y2, y3, y4, y5, y6, rfl, q0, q1⟩
    have hk6 : k < 6 := hk
    -- the rest, of a web that can be written
    have rest : ∀ (m : Nat) (ts : Ties) (s' l' : Int), Wr m ts → 0 ≤ s' → s' ≤ 100 * (k + 1 : Nat) → Ok (evB (callF T M (n + 4)) M [.set (.nm 4) (.p .repr [.o 3]),
.set (.nm 5) (.call 7 [.v 3] []),
.set (.nm 6) (.call 3 [.v 5] []),
.ite (.or (.p .ne [.p .repr [.o 6], .o 4]) (.or (.p .ne [.p .repr [.call 0 [.v 6] []], .p .repr [.o 5]]) (.p .ne [.p .repr [.o 6], .o 4]))) [.ret (.c (.bool false))] [],
.ite (.and (.p .lt [.o 2, .c (.int 3)]) (.or (.p .ne [.p .repr [.call 0 [.v 3] []], .p .repr [.o 5]]) (.p .ne [.p .repr [.o 3], .o 4]))) [.ret (.c (.bool false))] []] [some (.list (ns.map PyData.int)), some (tp ns s' l'), some (.int (k : Int)), some (webD m ts), y4, y5, y6]) (stepQ (fun ε => ∃ (s l : Int) (y2 y3 y4 y5 y6 : Option D), ε = [some (.list (ns.map PyData.int)), some (tp ns s l), y2, y3, y4, y5, y6] ∧ 0 ≤ s ∧ s ≤ 100 * (k + 1 : Nat)) (contB (callF T M (n + 4)) M [.ret (.c (.bool true))] (endQ [] fun p => p = (.bool true, [])))) := by
      intro m ts s' l' hw p0 p1
      have few := hw.few
      have s1 : showOk (webD m ts) = true := (nice_webW (by have := hw.lt; omega) hw.mem).show (by decide) (by omega)
      have s2 : showOk (.str (webS m ts)) = true := show_text (webS_lt m ts) (by have := webS_len hw.lt hw.mem; omega)
      simp only [mirS, List.all_cons, List.all_nil, Bool.and_true, Bool.true_and, decide_true, List.length_cons, List.length_nil, decide_eq_true_eq, Nat.zero_le, Nat.reduceLeDiff, Int.reduceLE, Int.reduceLT, Int.reducePow, Int.reduceNeg, Int.reduceToNat, ↓reduceIte, Bool.false_eq_true, Option.toList_some, Option.toList_none, List.append_nil, List.length_map, o_repr s1]
      refine (webText_ok (T := T) (i := 7) rfl hw.lt hw.mem (by omega)).mono ?_
      rintro _ rfl
      simp only [mirS, List.all_cons, List.all_nil, Bool.and_true, Bool.true_and, decide_true, List.length_cons, List.length_nil, decide_eq_true_eq, Nat.zero_le, Nat.reduceLeDiff, Int.reduceLE, Int.reduceLT, Int.reducePow, Int.reduceNeg, Int.reduceToNat, ↓reduceIte, Bool.false_eq_true, Option.toList_some, Option.toList_none, List.append_nil, List.length_map]
      refine (readWeb_ok (T := T) (i := 3) (nu := 1) (ti := 2) rfl rfl rfl hw.lt hw.mem hw.rise (by omega)).mono ?_
      rintro _ rfl
      simp only [mirS, List.all_cons, List.all_nil, Bool.and_true, Bool.true_and, decide_true, List.length_cons, List.length_nil, decide_eq_true_eq, Nat.zero_le, Nat.reduceLeDiff, Int.reduceLE, Int.reduceLT, Int.reducePow, Int.reduceNeg, Int.reduceToNat, ↓reduceIte, Bool.false_eq_true, Option.toList_some, Option.toList_none, List.append_nil, List.length_map, o_repr s1, o_ne_same]
      refine (webText_ok (T := T) (i := 0) rfl hw.lt hw.mem (by omega)).mono ?_
      rintro _ rfl
      simp only [mirS, List.all_cons, List.all_nil, Bool.and_true, Bool.true_and, decide_true, List.length_cons, List.length_nil, decide_eq_true_eq, Nat.zero_le, Nat.reduceLeDiff, Int.reduceLE, Int.reduceLT, Int.reducePow, Int.reduceNeg, Int.reduceToNat, ↓reduceIte, Bool.false_eq_true, Option.toList_some, Option.toList_none, List.append_nil, List.length_map, o_repr s1, o_repr s2, o_ne_same]
      by_cases h3 : (k : Int) < 3
      · simp only [mirS, List.all_cons, List.all_nil, Bool.and_true, Bool.true_and, decide_true, List.length_cons, List.length_nil, decide_eq_true_eq, Nat.zero_le, Nat.reduceLeDiff, Int.reduceLE, Int.reduceLT, Int.reducePow, Int.reduceNeg, Int.reduceToNat, ↓reduceIte, Bool.false_eq_true, Option.toList_some, Option.toList_none, List.append_nil, List.length_map, h3, decide_true]
        refine (webText_ok (T := T) (i := 0) rfl hw.lt hw.mem (by omega)).mono ?_
        rintro _ rfl
        simp only [mirS, List.all_cons, List.all_nil, Bool.and_true, Bool.true_and, decide_true, List.length_cons, List.length_nil, decide_eq_true_eq, Nat.zero_le, Nat.reduceLeDiff, Int.reduceLE, Int.reduceLT, Int.reducePow, Int.reduceNeg, Int.reduceToNat, ↓reduceIte, Bool.false_eq_true, Option.toList_some, Option.toList_none, List.append_nil, List.length_map, o_repr s1, o_repr s2, o_ne_same]
        exact ⟨_, _, _, _, _, _, _, rfl, p0, p1⟩
      · simp only [mirS, List.all_cons, List.all_nil, Bool.and_true, Bool.true_and, decide_true, List.length_cons, List.length_nil, decide_eq_true_eq, Nat.zero_le, Nat.reduceLeDiff, Int.reduceLE, Int.reduceLT, Int.reducePow, Int.reduceNeg, Int.reduceToNat, ↓reduceIte, Bool.false_eq_true, Option.toList_some, Option.toList_none, List.append_nil, List.length_map, h3, decide_false]
        exact ⟨_, _, _, _, _, _, _, rfl, p0, p1⟩
    rw [forF_nm]
    by_cases h3 : (k : Int) < 3
    · rw [okB_cons]
      simp only [mirS, List.all_cons, List.all_nil, Bool.and_true, Bool.true_and, decide_true, List.length_cons, List.length_nil, decide_eq_true_eq, Nat.zero_le, Nat.reduceLeDiff, Int.reduceLE, Int.reduceLT, Int.reducePow, Int.reduceNeg, Int.reduceToNat, ↓reduceIte, Bool.false_eq_true, Option.toList_some, Option.toList_none, List.append_nil, List.length_map, h3, decide_true]
      refine (web_ok (n := n + 2) (by omega) (by omega)).mono ?_
      rintro _ ⟨m, ts, s', l', rfl, hw, a1, a2⟩
      simp only [mirS, List.all_cons, List.all_nil, Bool.and_true, Bool.true_and, decide_true, List.length_cons, List.length_nil, decide_eq_true_eq, Nat.zero_le, Nat.reduceLeDiff, Int.reduceLE, Int.reduceLT, Int.reducePow, Int.reduceNeg, Int.reduceToNat, ↓reduceIte, Bool.false_eq_true, Option.toList_some, Option.toList_none, List.append_nil, List.length_map]
      have := rest m ts s' l' hw (by omega) (by omega)
      simp only [mirS, List.all_cons, List.all_nil, Bool.and_true, Bool.true_and, decide_true, List.length_cons, List.length_nil, decide_eq_true_eq, Nat.zero_le, Nat.reduceLeDiff, Int.reduceLE, Int.reduceLT, Int.reducePow, Int.reduceNeg, Int.reduceToNat, ↓reduceIte, Bool.false_eq_true, Option.toList_some, Option.toList_none, List.append_nil, List.length_map] at this
      exact this
    · rw [okB_cons]
      simp only [mirS, List.all_cons, List.all_nil, Bool.and_true, Bool.true_and, decide_true, List.length_cons, List.length_nil, decide_eq_true_eq, Nat.zero_le, Nat.reduceLeDiff, Int.reduceLE, Int.reduceLT, Int.reducePow, Int.reduceNeg, Int.reduceToNat, ↓reduceIte, Bool.false_eq_true, Option.toList_some, Option.toList_none, List.append_nil, List.length_map, h3, decide_false]
      refine (great_ok (n := n + 2) (by omega) (by omega)).mono ?_
      rintro _ ⟨m, ts, s', l', rfl, hw, a1, a2⟩
      simp only [mirS, List.all_cons, List.all_nil, Bool.and_true, Bool.true_and, decide_true, List.length_cons, List.length_nil, decide_eq_true_eq, Nat.zero_le, Nat.reduceLeDiff, Int.reduceLE, Int.reduceLT, Int.reducePow, Int.reduceNeg, Int.reduceToNat, ↓reduceIte, Bool.false_eq_true, Option.toList_some, Option.toList_none, List.append_nil, List.length_map]
      have := rest m ts s' l' hw (by omega) (by omega)
      simp only [mirS, List.all_cons, List.all_nil, Bool.and_true, Bool.true_and, decide_true, List.length_cons, List.length_nil, decide_eq_true_eq, Nat.zero_le, Nat.reduceLeDiff, Int.reduceLE, Int.reduceLT, Int.reducePow, Int.reduceNeg, Int.reduceToNat, ↓reduceIte, Bool.false_eq_true, Option.toList_some, Option.toList_none, List.append_nil, List.length_map] at this
      exact this
  · rintro ε ⟨s, l, y2, y3, y4, y5, y6, rfl, q0, q1⟩
    simp only [mirS, List.all_cons, List.all_nil, Bool.and_true, Bool.true_and, decide_true, List.length_cons, List.length_nil, decide_eq_true_eq, Nat.zero_le, Nat.reduceLeDiff, Int.reduceLE, Int.reduceLT, Int.reducePow, Int.reduceNeg, Int.reduceToNat, ↓reduceIte, Bool.false_eq_true, Option.toList_some, Option.toList_none, List.append_nil, List.length_map]
theorem all_ok (ns : List Int) (h : ns.length ≤ 63) : ∃ M, callF T M 20 9 [.list (ns.map PyData.int)] = .ok (.bool true, []) :=
  ⟨2000, (law_ok (n := 15) h).eq⟩
end
end Mir.P.K05
open PySem PySem.W PyProof.Rows
set_option maxHeartbeats 0 in
theorem PySem.Challenge.cw_pairtally_k05_webs_written_and_read_holds : PySem.Challenge.rw_pairtally_k05_webs_written_and_read.Holds := by
  w_on; o_law; k_head; (case hw => w_witness2)
  k_fill
  refine Mir.walkM (l := PySem.Challenge.rw_pairtally_k05_webs_written_and_read) (N := 63) (x := "_law_script") Mir.P.K05.S Mir.P.K05.T Mir.P.K05.B Mir.P.K05.Cn 20 9 Mir.P.K05.g9 rfl (by decide) rfl ⟨rfl, by decide, by decide⟩ (fun w h Y => PySem.W.kIn_of Y) rfl rfl rfl rfl ?F (fun ns hl => Mir.P.K05.all_ok ns hl)
  case F =>
    intro w mg h KX G
    refine' Mir.P.K05.tabAll KX G ?x0 ?l0 ?c0 ?k0 ?x1 ?l1 ?c1 ?k1 ?x2 ?l2 ?c2 ?k2 ?x3 ?l3 ?c3 ?k3 ?x4 ?l4 ?c4 ?k4 ?x5 ?l5 ?c5 ?k5 ?x6 ?l6 ?c6 ?k6 ?x7 ?l7 ?c7 ?k7 ?x8 ?l8 ?c8 ?k8 ?x9 ?l9 ?c9 ?k9 ?y0 ?y1 ?z0 ?z1 ?z2 ?z3 ?z4 ?z5 ?z6 ?z7 ?z8 ?z9 ?z10
    (case x0 => k_is); (case l0 => k_is); (case c0 => k_is); (case k0 => k_is); (case x1 => k_is); (case l1 => k_is); (case c1 => k_is); (case k1 => k_is)
    (case x2 => k_is); (case l2 => k_is); (case c2 => k_is); (case k2 => k_is); (case x3 => k_is); (case l3 => k_is); (case c3 => k_is); (case k3 => k_is)
    (case x4 => k_is); (case l4 => k_is); (case c4 => k_is); (case k4 => k_is); (case x5 => k_is); (case l5 => k_is); (case c5 => k_is); (case k5 => k_is)
    (case x6 => k_is); (case l6 => k_is); (case c6 => k_is); (case k6 => k_is); (case x7 => k_is); (case l7 => k_is); (case c7 => k_is); (case k7 => k_is)
    (case x8 => k_is); (case l8 => k_is); (case c8 => k_is); (case k8 => k_is); (case x9 => k_is); (case l9 => k_is); (case c9 => k_is); (case k9 => k_is)
    (case y0 => k_is); (case y1 => k_is); (case z0 => k_is); (case z1 => k_is); (case z2 => k_is); (case z3 => k_is); (case z4 => k_is); (case z5 => k_is)
    (case z6 => k_is); (case z7 => k_is); (case z8 => k_is); (case z9 => k_is); (case z10 => k_is)
