import PyProof.Rows.All
import Wide.All
import OpenK.AllK
import Wide.FinOn
import HandS.ForMost
import PyProof.ReprReads
import HandS.ForExc
import HandS.TryMany
import HandS.ExcInit
import HandS.ExcField
import HandS.IsInst
import HandS.SortInts
import HandS.Conv
import HandS.TupAny
import HandS.TupMul
import HandS.SetFor
import HandS.Zip
import HandS.Deep
import HandS.Wide
import HandS.Flow
import HandS.TupLe
import HandS.More
import HandS.Lambda
import KE.SortKeyHeap
import KE.KeyNested
import KE.KDictKeyed
import KE.KRevSl
import HandS.WordsExc
import KE.KDictCopyH
import KE.GoesMore
import HandS.ExcOwn
import HandS.DictComp
import KE.KDictDisplayH
import PyProof.Rows.TupDisplay
import HandS.Star
import HandS.CallLocal
import KE.KDictSum
import KE.KExcInit
import PyProof.InstStore
import HandS.Sort
import KE.SortCalls
import PyProof.TupleOfStr
import PyProof.ReprRoads
import HandS.EndTab
import KE.KNestM
import PySem.Challenge.RW_loadwide_k82_errors_of_sums
set_option Elab.async false
set_option linter.all false
set_option autoImplicit false
set_option maxRecDepth 100000
set_option maxHeartbeats 0
/-! MiniPy 1: data, the small language, its meaning. -/
namespace MP
open PySem

/-! ### data: by value; a changing object by its place in the small heap -/
inductive D where
  | non | bl (b : Bool) | int (i : Int) | str (x : Str) | ty (n : String)
  | tup (l : List D) | lst (l : List D) | scr (l : List D) | dct (e : Nat) (l : List (D × D)) | ref (n : Nat) | fn (n : Nat)
  deriving Inhabited

mutual
def bq : D → D → Bool
  | .non, .non => true
  | .bl a, .bl b => a == b
  | .int a, .int b => a == b
  | .str a, .str b => decide (a = b)
  | .ty a, .ty b => a == b
  | .tup a, .tup b => bqs a b
  | .lst a, .lst b => bqs a b
  | .scr a, .scr b => bqs a b
  | .dct e a, .dct f b => e == f && bqd a b
  | .ref a, .ref b => a == b
  | .fn a, .fn b => a == b
  | _, _ => false
def bqs : List D → List D → Bool
  | [], [] => true
  | a :: r, b :: s => bq a b && bqs r s
  | _, _ => false
def bqd : List (D × D) → List (D × D) → Bool
  | [], [] => true
  | (a, c) :: r, (b, d) :: s => bq a b && (bq c d && bqd r s)
  | _, _ => false
end
mutual
theorem bq_eq : ∀ {a b : D}, bq a b = true → a = b
  | .non, b, h => by cases b <;> simp [bq] at h <;> rfl
  | .bl a, b, h => by cases b <;> simp [bq] at h; rw [h]
  | .int a, b, h => by cases b <;> simp [bq] at h; rw [h]
  | .str a, b, h => by cases b <;> simp [bq] at h; rw [h]
  | .ty a, b, h => by cases b <;> simp [bq] at h; rw [h]
  | .tup a, b, h => by cases b <;> simp [bq] at h; rw [bqs_eq h]
  | .lst a, b, h => by cases b <;> simp [bq] at h; rw [bqs_eq h]
  | .scr a, b, h => by cases b <;> simp [bq] at h; rw [bqs_eq h]
  | .dct e a, b, h => by cases b <;> simp [bq] at h; rw [h.1, bqd_eq h.2]
  | .ref a, b, h => by cases b <;> simp [bq] at h; rw [h]
  | .fn a, b, h => by cases b <;> simp [bq] at h; rw [h]
theorem bqs_eq : ∀ {a b : List D}, bqs a b = true → a = b
  | [], b, h => by cases b <;> simp [bqs] at h; rfl
  | a :: r, b, h => by
    cases b with
    | nil => simp [bqs] at h
    | cons b s =>
      simp [bqs] at h
      rw [bq_eq h.1, bqs_eq h.2]
theorem bqd_eq : ∀ {a b : List (D × D)}, bqd a b = true → a = b
  | [], b, h => by cases b <;> simp [bqd] at h; rfl
  | (a, c) :: r, b, h => by
    cases b with
    | nil => simp [bqd] at h
    | cons b s =>
      obtain ⟨b, d⟩ := b
      simp [bqd] at h
      rw [bq_eq h.1, bq_eq h.2.1, bqd_eq h.2.2]
end
mutual
theorem bq_self : ∀ a : D, bq a a = true
  | .non => by simp [bq]
  | .bl _ => by simp [bq]
  | .int _ => by simp [bq]
  | .str _ => by simp [bq]
  | .ty _ => by simp [bq]
  | .tup l => by simp [bq, bqs_self l]
  | .lst l => by simp [bq, bqs_self l]
  | .scr l => by simp [bq, bqs_self l]
  | .dct e l => by simp [bq, bqd_self l]
  | .ref _ => by simp [bq]
  | .fn _ => by simp [bq]
theorem bqs_self : ∀ a : List D, bqs a a = true
  | [] => by simp [bqs]
  | a :: r => by simp [bqs, bq_self a, bqs_self r]
theorem bqd_self : ∀ a : List (D × D), bqd a a = true
  | [] => by simp [bqd]
  | (a, b) :: r => by simp [bqd, bq_self a, bq_self b, bqd_self r]
end

/-! all places are below b -/
mutual
def bel (b : Nat) : D → Bool
  | .tup l => bels b l
  | .lst l => bels b l
  | .scr l => bels b l
  | .dct _ l => beld b l
  | .ref n => decide (n < b)
  | .non => true | .bl _ => true | .int _ => true | .str _ => true | .ty _ => true | .fn _ => true
def bels (b : Nat) : List D → Bool
  | [] => true
  | d :: r => bel b d && bels b r
def beld (b : Nat) : List (D × D) → Bool
  | [] => true
  | (k, v) :: r => bel b k && (bel b v && beld b r)
end
/-! places turned by f -/
mutual
def sub (f : Nat → Option D) : D → Option D
  | .tup l => (subs f l).map .tup
  | .lst l => (subs f l).map .lst
  | .scr l => (subs f l).map .scr
  | .dct e l => (subd f l).map (.dct e)
  | .ref n => f n
  | .non => some .non | .bl b => some (.bl b) | .int i => some (.int i) | .str x => some (.str x) | .ty n => some (.ty n) | .fn n => some (.fn n)
def subs (f : Nat → Option D) : List D → Option (List D)
  | [] => some []
  | d :: r => (sub f d).bind fun d' => (subs f r).map fun r' => d' :: r'
def subd (f : Nat → Option D) : List (D × D) → Option (List (D × D))
  | [] => some []
  | (k, v) :: r => (sub f k).bind fun k' => (sub f v).bind fun v' => (subd f r).map fun r' => (k', v') :: r'
end
/-- no place at all -/
abbrev clo (d : D) : Bool := bel 0 d
/-- the new objects (from b on) frozen -/
def gf (M : List D) (b : Nat) : Nat → Nat → Option D
  | 0 => fun k => if k < b then some (.ref k) else none
  | n + 1 => fun k => if k < b then some (.ref k) else (M[k]?).bind (sub (gf M b n))
def frz (M : List D) (b n : Nat) (d : D) : Option D := sub (gf M b n) d
/-- an object's content -/
def cont (M : List D) : D → Option D
  | .ref n => M[n]?
  | d => some d

/-! ### results -/
inductive R (α : Type) where
  | ok (a : α) (M : List D)
  | exc (c : Str) (e : D) (M : List D)
  | bad
def R.bind {α β : Type} (r : R α) (f : α → List D → R β) : R β := match r with
  | .ok a M => f a M
  | .exc c e M => .exc c e M
  | .bad => .bad
/-- no exception may leave -/
def R.nx {α : Type} (r : R α) : R α := match r with
  | .ok a M => .ok a M
  | _ => .bad
def ofO {α : Type} (o : Option α) (M : List D) : R α := match o with
  | some a => .ok a M
  | none => .bad
@[simp] theorem R.bind_ok {α β : Type} (a : α) (M : List D) (f : α → List D → R β) : (R.ok a M).bind f = f a M := rfl
@[simp] theorem R.bind_exc {α β : Type} (c : Str) (e : D) (M : List D) (f : α → List D → R β) : (R.exc c e M).bind f = .exc c e M := rfl
@[simp] theorem R.bind_bad {α β : Type} (f : α → List D → R β) : (R.bad).bind f = .bad := rfl
@[simp] theorem R.nx_ok {α : Type} (a : α) (M : List D) : (R.ok a M).nx = .ok a M := rfl
@[simp] theorem ofO_some {α : Type} (a : α) (M : List D) : ofO (some a) M = .ok a M := rfl
@[simp] theorem ofO_none {α : Type} (M : List D) : (ofO none M : R α) = .bad := rfl

abbrev Lo := List (Option D)
/-- the longest list -/
abbrev lim : Nat := sizeLine

/-! ### operations by values -/
inductive Bop where | add | sub | mul | fdiv | mod | pow deriving DecidableEq
inductive Cop where | eq | ne | lt | le | gt | ge | inn | nin | isx | isn deriving DecidableEq

def okMul (i j : Int) : Bool := (decide (-(2 ^ 64) < i) && decide (i < 2 ^ 64)) || (decide (-(2 ^ 64) < j) && decide (j < 2 ^ 64))
def intS : Bop → Int → Int → Option Int
  | .add, i, j => some (i + j)
  | .sub, i, j => some (i - j)
  | .mul, i, j => if okMul i j then some (i * j) else none
  | .fdiv, i, j => if j ≠ 0 ∧ j.natAbs < 1073741824 then some (i.fdiv j) else none
  | .mod, i, j => if j ≠ 0 then some (i.fmod j) else none
  | .pow, i, j => if 0 ≤ j ∧ (Builtin.Int.intBits i : Int) * j ≤ 2 ^ 27 then some (i ^ j.toNat) else none
def binS (M : List D) (o : Bop) (x y : D) : Option D :=
  match x, y with
  | .int i, .int j => (intS o i j).map .int
  | .tup a, .tup b => if o = .add ∧ a.length + b.length ≤ lim then some (.tup (a ++ b)) else none
  | .tup a, .int k => if o = .mul ∧ a ≠ [] ∧ 1 ≤ k ∧ k ≤ 1000 ∧ a.length ≤ 1000 then some (.tup (List.replicate k.toNat a).flatten) else none
  | x, y => match cont M x, cont M y with
    | some (.lst a), some (.lst b) => if o = .add ∧ a.length + b.length ≤ lim then some (.lst (a ++ b)) else none
    | _, _ => none


/-! ### comparisons -/
mutual
def toPD : D → Option PyData
  | .non => some .none
  | .bl b => some (.bool b)
  | .int i => some (.int i)
  | .str x => some (.str x)
  | .tup l => (toPDs l).map .tuple
  | .lst l => (toPDs l).map .list
  | .scr _ => none | .dct _ _ => none | .ref _ => none | .ty _ => none | .fn _ => none
def toPDs : List D → Option (List PyData)
  | [] => some []
  | d :: r => (toPD d).bind fun d' => (toPDs r).map fun r' => d' :: r'
end
/-- == of data: the places are looked up -/
def eqD (M : List D) (x y : D) : Option Bool :=
  match (frz M 0 6 x).bind toPD, (frz M 0 6 y).bind toPD with
  | some a, some b => if SeqAt.shaped a && SeqAt.shaped b then some (PyData.eqv a b) else none
  | _, _ => none
def eqS (M : List D) (x y : D) : Option Bool :=
  match x, y with
  | .str a, .str b => some (decide (a = b))
  | x, y => eqD M x y
theorem eqS_eqD {M : List D} {x y : D} {k : Bool} (h : eqD M x y = some k) : eqS M x y = some k := by
  cases x with
  | str a =>
    cases y with
    | str b =>
      have h1 : ∀ x : Str, frz M 0 6 (.str x) = some (.str x) := fun x => by
        unfold frz sub
        rfl
      unfold eqD at h
      rw [h1, h1] at h
      simp only [Option.bind_some, toPD] at h
      split at h
      · cases h
        show some (decide (a = b)) = _
        rw [PyData.eqv]
        rfl
      · cases h
    | _ => exact h
  | _ => cases y <;> exact h
theorem eqS_cases {M : List D} {x y : D} {k : Bool} (h : eqS M x y = some k) : (∃ a b, x = .str a ∧ y = .str b ∧ k = decide (a = b)) ∨ eqD M x y = some k := by
  cases x with
  | str a =>
    cases y with
    | str b =>
      have h' : some (decide (a = b)) = some k := h
      cases h'
      exact .inl ⟨a, b, rfl, rfl, rfl⟩
    | _ => exact .inr h
  | _ => cases y <;> exact .inr h
/-- repr of data: the places are looked up -/
def shwS (M : List D) (x : D) : Option D := match x with
  | .bl b => some (.str (if b then "True" else "False"))
  | x => match (frz M 0 6 x).bind toPD with
    | some d => if (match d with | .list _ => true | .tuple _ => true | _ => false) && d.showable && (decide (d.depth ≤ 8) && decide (d.shown.length ≤ sizeLine)) then some (.str d.shown) else none
    | none => none
def flat : D → Bool
  | .non => true | .bl _ => true | .int _ => true | .str _ => true
  | _ => false
def eqFl : D → D → Bool
  | .non, .non => true
  | .bl a, .bl b => a == b
  | .bl a, .int b => (if a then 1 else 0) == b
  | .int a, .bl b => a == (if b then 1 else 0)
  | .int a, .int b => a == b
  | .str a, .str b => a == b
  | _, _ => false
def allInts : List D → Option (List Int)
  | [] => some []
  | .int i :: r => (allInts r).map fun r' => i :: r'
  | _ => none
def allBls : List D → Option (List Bool)
  | [] => some []
  | .bl i :: r => (allBls r).map fun r' => i :: r'
  | _ => none
def twoI (p : Int → Int → Bool) : D → D → Option Bool
  | .int i, .int j => some (p i j)
  | _, _ => none
def inS (M : List D) (neg : Bool) (x y : D) : Option Bool :=
  match cont M y with
  | some (.tup l) => if flat x && l.all flat then some (neg != l.any fun z => eqFl z x) else none
  | some (.lst l) => if flat x && l.all flat then some (neg != l.any fun z => eqFl z x) else none
  | _ => none
def isS : D → D → Option Bool
  | .bl a, .bl b => some (decide (a = b))
  | .ty a, .ty b => some (decide (a = b))
  | x, .non => some (match x with | .non => true | _ => false)
  | _, _ => none
def cmpS (M : List D) (o : Cop) (x y : D) : Option Bool :=
  match o with
  | .eq => eqS M x y
  | .ne => (eqS M x y).map not
  | .lt => twoI (fun i j => decide (i < j)) x y
  | .le => twoI (fun i j => decide (i ≤ j)) x y
  | .gt => twoI (fun i j => decide (j < i)) x y
  | .ge => twoI (fun i j => decide (j ≤ i)) x y
  | .inn => inS M false x y
  | .nin => inS M true x y
  | .isx => isS x y
  | .isn => (isS x y).map not
def truth (M : List D) (x : D) : Option Bool :=
  match cont M x with
  | some .non => some false
  | some (.bl b) => some b
  | some (.int i) => some (i != 0)
  | some (.tup l) => some (!l.isEmpty)
  | some (.lst l) => some (!l.isEmpty)
  | some (.scr l) => some (!l.isEmpty)
  | _ => none

/-! keys of dicts -/
mutual
def keyOf : D → Option NestedKey
  | .non => some .none
  | .bl b => some (.num (if b = true then 1 else 0))
  | .int i => some (.num i)
  | .str x => some (.text x)
  | .tup l => (keysOf l).map .tup
  | .ty _ => none | .lst _ => none | .scr _ => none | .dct _ _ => none | .ref _ => none | .fn _ => none
def keysOf : List D → Option (List NestedKey)
  | [] => some []
  | d :: r => (keyOf d).bind fun k => (keysOf r).map fun ks => k :: ks
end
/-! dicts -/
def isTp : D → Bool
  | .tup _ => true
  | _ => false
def tKeys (l : List (D × D)) : Bool := l.all fun p => isTp p.1
def dIx (l : List (D × D)) (k : NestedKey) : Option Nat := l.findIdx? fun p => decide (keyOf p.1 = some k)
/-- the key y -/
def tKey (_ : List (D × D)) (y : D) : Option NestedKey := (keyOf y).bind fun k => if k.depth ≤ 8 then some k else none
def dGet (l : List (D × D)) (y : D) : Option D := (tKey l y).bind fun k => (dIx l k).bind fun j => (l[j]?).map (·.2)
/-- an epoch further on (0: it is not known) -/
def epS (e : Nat) : Nat := if e = 0 then 0 else e + 1
def dPut (e : Nat) (l : List (D × D)) (y d : D) : Option (Nat × List (D × D)) := if l.length < sizeLine then (tKey l y).bind fun k => some (match dIx l k with | some j => (e, l.modify j fun p => (p.1, d)) | none => (epS e, l ++ [(y, d)])) else none
def dPuts : Nat → List (D × D) → List (D × D) → Option (Nat × List (D × D))
  | e, l, [] => some (e, l)
  | e, l, p :: r => (dPut e l p.1 p.2).bind fun q => dPuts q.1 q.2 r
mutual
/-- no text in a key: its hash is that of every world -/
def noTx : NestedKey → Bool
  | .none => true | .num _ => true | .text _ => false
  | .tup ks => noTxs ks
def noTxs : List NestedKey → Bool
  | [] => true
  | k :: ks => noTx k && noTxs ks
end
mutual
def hash0 : NestedKey → Int
  | .none => reduceHash 0xFCA86420
  | .num i => hashInt i
  | .text _ => 0
  | .tup ks => reduceHash (Builtin.Tuple.tupleHashOf (hashs0 ks))
def hashs0 : List NestedKey → List Int
  | [] => []
  | k :: ks => hash0 k :: hashs0 ks
end

/-! ### subscripts, slices -/
def idxS (M : List D) (x y : D) : Option D :=
  match cont M x, y with
  | some (.tup l), .int i => L2.atI l i
  | some (.lst l), .int i => L2.atI l i
  | some (.scr l), .int i => L2.atI l i
  | some (.dct _ l), y => dGet l y
  | _, _ => none
/-- a part of a slice: nothing, or an int -/
def cutD (l : List D) (lo hi : Option Int) : List D := (l.drop (HT.sIx l.length 0 lo)).take (HT.sIx l.length l.length hi - HT.sIx l.length 0 lo)
def slcS (M : List D) (x : D) (lo hi : Option Int) : Option D :=
  match cont M x with
  | some (.tup l) => some (.tup (cutD l lo hi))
  | some (.lst l) => some (.lst (cutD l lo hi))
  | some (.scr l) => some (.lst (cutD l lo hi))
  | _ => none
/-- x[::-1] -/
def revS (M : List D) (x : D) : Option D :=
  match cont M x with
  | some (.tup l) => some (.tup l.reverse)
  | some (.lst l) => some (.lst l.reverse)
  | _ => none
def setS (M : List D) (o i v : D) : Option (List D) :=
  match o, i with
  | .ref n, .int k => match M[n]? with
    | some (.lst l) => (L2.ixN l.length k).map fun j => M.set n (.lst (l.set j v))
    | _ => none
  | .ref n, i => match M[n]? with
    | some (.dct e l) => (dPut e l i v).map fun q => M.set n (.dct q.1 q.2)
    | _ => none
  | _, _ => none
/-- o.setdefault(k, v) -/
def setdS (M : List D) (o k v : D) : Option (D × List D) :=
  match o with
  | .ref n => match M[n]? with
    | some (.dct e l) => if l.length < lim then (tKey l k).bind fun kk => match dIx l kk with
      | some j => (l[j]?).map fun p => (p.2, M)
      | none => some (v, M.set n (.dct (epS e) (l ++ [(k, v)])))
      else none
    | _ => none
  | _ => none
def hashsOk (l : List (D × D)) : Bool := l.all (fun p => match keyOf p.1 with | some k => noTx k | none => false) && decide ((l.map fun p => match keyOf p.1 with | some k => hash0 k | none => 0).Nodup)
/-- o.update(x): x a dict by value -/
def updS (M : List D) (o x : D) : Option (List D) :=
  match o, x with
  | .ref n, .dct _ r => match M[n]? with
    | some (.dct e l) => if tKeys l && (tKeys r && decide (l.length + r.length ≤ lim)) then
        (match l with
        | [] => if hashsOk r then some (M.set n (.dct 0 r)) else none
        | _ => (dPuts 0 l r).map fun q => M.set n (.dct 0 q.2)) else none
    | _ => none
  | _, _ => none

/-! ### built-in functions and methods -/
inductive Blt where | len | abs | int | max | min | sum | all | any | isinst | repr | tuple deriving DecidableEq
inductive Mth where | append | extend | count | index | insert deriving DecidableEq

def lenS (M : List D) (x : D) : Option Int :=
  match cont M x with
  | some (.tup l) => some l.length
  | some (.lst l) => some l.length
  | some (.scr l) => some l.length
  | some (.str x) => if x.length ≤ lim then some x.length else none
  | _ => none
def tyS (M : List D) (x : D) : Option String :=
  match cont M x with
  | some .non => some "NoneType"
  | some (.bl _) => some "bool"
  | some (.int _) => some "int"
  | some (.str _) => some "str"
  | some (.tup _) => some "tuple"
  | some (.lst _) => some "list"
  | some (.scr _) => none
  | some (.dct _ _) => some "dict"
  | _ => none
def isiS (a b : String) : Option Bool :=
  if a = b then some true else
  if b = "int" ∧ a = "bool" then some true else
  if b = "int" ∨ b = "bool" ∨ b = "tuple" ∨ b = "list" ∨ b = "dict" ∨ b = "str" then some false else none
def leastI : Int → List Int → Int
  | m, [] => m
  | m, x :: r => leastI (if x < m then x else m) r
def mostI : Int → List Int → Int
  | m, [] => m
  | m, x :: r => mostI (if x > m then x else m) r
def lstOf (M : List D) (x : D) : Option (List D) :=
  match cont M x with
  | some (.lst l) => some l
  | _ => none
def bltS (M : List D) (b : Blt) (vs : List D) : Option D :=
  match b, vs with
  | .len, [x] => (lenS M x).map .int
  | .abs, [.int i] => some (.int (if i < 0 then -i else i))
  | .int, [.int i] => some (.int i)
  | .int, [.bl b] => some (.int (if b then 1 else 0))
  | .max, [.int i, .int j] => some (.int (if j > i then j else i))
  | .min, [.int i, .int j] => some (.int (if j < i then j else i))
  | .max, [x] => ((lstOf M x).bind allInts).bind fun l => match l with | [] => none | i :: r => some (.int (mostI i r))
  | .min, [x] => ((lstOf M x).bind allInts).bind fun l => match l with | [] => none | i :: r => some (.int (leastI i r))
  | .sum, [x] => ((lstOf M x).bind allInts).map fun l => .int l.sum
  | .all, [x] => ((lstOf M x).bind allBls).map fun l => .bl (l.all id)
  | .any, [x] => ((lstOf M x).bind allBls).map fun l => .bl (l.any id)
  | .isinst, [x, .ty n] => (tyS M x).bind fun t => (isiS t n).map .bl
  | .repr, [.bl b] => some (.str (if b then "True" else "False"))
  | .tuple, [.tup l] => some (.tup l)
  | .tuple, [x] => (lstOf M x).map .tup
  | _, _ => none
def idxOf (k : Int) : List Int → Option Nat
  | [] => none
  | x :: r => if x = k then some 0 else (idxOf k r).map (· + 1)
def mthS (M : List D) (m : Mth) (x : D) (vs : List D) : Option (D × List D) :=
  match m, x, vs with
  | .append, .ref n, [v] => match M[n]? with
    | some (.lst l) => if l.length < lim then some (.non, M.set n (.lst (l ++ [v]))) else none
    | _ => none
  | .extend, .ref n, [.lst v] => match M[n]? with
    | some (.lst l) => if l.length + v.length ≤ lim then some (.non, M.set n (.lst (l ++ v))) else none
    | _ => none
  | .count, x, [.int k] => ((lstOf M x).bind allInts).map fun l => (.int (l.count k : Nat), M)
  | .index, x, [.int k] => ((lstOf M x).bind allInts).bind fun l => (idxOf k l).map fun j => (.int (j : Nat), M)
  | .insert, .ref n, [.int i, v] => match M[n]? with
    | some (.lst l) => if l.length < lim ∧ 0 ≤ i ∧ i < 2 ^ 63 then some (.non, M.set n (.lst (l.take i.toNat ++ [v] ++ l.drop i.toNat))) else none
    | _ => none
  | _, _, _ => none
def mthK (M : List D) (x : D) : Bool := match cont M x with | some (.lst _) => true | _ => false
/-! the merge sort, by a number of steps (so that it can be reckoned) -/
section
variable {α : Type} (le : α → α → Bool)
def mrg : Nat → List α → List α → List α
  | 0, xs, ys => xs ++ ys
  | n + 1, xs, ys => match xs, ys with
    | [], ys => ys
    | x :: xs, [] => x :: xs
    | x :: xs, y :: ys => if le x y then x :: mrg n xs (y :: ys) else y :: mrg n (x :: xs) ys
theorem mrg_eq : ∀ (n : Nat) (xs ys : List α), xs.length + ys.length ≤ n → mrg le n xs ys = List.merge xs ys le
  | 0, xs, ys, h => by
    have h1 : xs = [] := List.length_eq_zero_iff.mp (by omega)
    have h2 : ys = [] := List.length_eq_zero_iff.mp (by omega)
    rw [h1, h2, List.nil_merge]
    rfl
  | n + 1, [], ys, _ => by
    rw [List.nil_merge]
    rfl
  | n + 1, x :: xs, [], _ => by
    rw [List.merge_right]
    rfl
  | n + 1, x :: xs, y :: ys, h => by
    rw [List.merge]
    show (if le x y then x :: mrg le n xs (y :: ys) else y :: mrg le n (x :: xs) ys) = _
    simp only [List.length_cons] at h
    rw [mrg_eq n xs (y :: ys) (by simp only [List.length_cons]; omega), mrg_eq n (x :: xs) ys (by simp only [List.length_cons]; omega)]
def msrt : Nat → List α → List α
  | 0, l => l
  | n + 1, l => match l with
    | [] => []
    | [a] => [a]
    | a :: b :: r => let l := a :: b :: r; mrg le l.length (msrt n (l.take ((l.length + 1) / 2))) (msrt n (l.drop ((l.length + 1) / 2)))
theorem msrt_eq : ∀ (n : Nat) (l : List α), l.length ≤ n → msrt le n l = l.mergeSort le
  | 0, l, h => by
    have h1 : l = [] := List.length_eq_zero_iff.mp (by omega)
    rw [h1, List.mergeSort_nil]
    rfl
  | n + 1, [], _ => by
    rw [List.mergeSort_nil]
    rfl
  | n + 1, [a], _ => by
    rw [List.mergeSort_singleton]
    rfl
  | n + 1, a :: b :: r, h => by
    have e1 := msrt_eq n ((a :: b :: r).take (((a :: b :: r).length + 1) / 2)) (by simp only [List.length_take, List.length_cons] at h ⊢; omega)
    have e2 := msrt_eq n ((a :: b :: r).drop (((a :: b :: r).length + 1) / 2)) (by simp only [List.length_drop, List.length_cons] at h ⊢; omega)
    show mrg le (a :: b :: r).length (msrt le n ((a :: b :: r).take (((a :: b :: r).length + 1) / 2))) (msrt le n ((a :: b :: r).drop (((a :: b :: r).length + 1) / 2))) = _
    rw [e1, e2, mrg_eq]
    · rw [List.mergeSort.eq_3 le a b r]
      simp only [List.MergeSort.Internal.splitInTwo_fst, List.MergeSort.Internal.splitInTwo_snd]
    · rw [List.length_mergeSort, List.length_mergeSort, List.length_take, List.length_drop]
      omega
end
def sortI (l : List Int) : List Int := msrt (fun a b => decide (a ≤ b)) l.length l
theorem sortI_eq (l : List Int) : sortI l = l.mergeSort := msrt_eq _ _ _ (Nat.le_refl _)
/-! items sorted by keys -/
def tupNE : PyData → Bool | .tuple (_ :: _) => true | _ => false
def notTN : PyData → Bool | .tuple _ => false | .none => false | _ => true
def keysOk (kz : List PyData) : Bool := (kz.all fun d => kz.all fun d' => PySem.W.alike d d') && ((kz.all tupNE || kz.all notTN) && kz.all fun d => decide (d.depth ≤ 50))
def sortBy (ds : List D) (kz : List PyData) : List D := (msrt (PySem.W.dataLe false Prod.snd) (ds.zip kz).length (ds.zip kz)).map Prod.fst
theorem sortBy_eq (ds : List D) (kz : List PyData) : sortBy ds kz = ((ds.zip kz).mergeSort (PySem.W.dataLe false Prod.snd)).map Prod.fst := by
  unfold sortBy
  rw [msrt_eq _ _ _ (Nat.le_refl _)]
def sortD (ds ks : List D) : Option D := (toPDs ks).bind fun kz => if keysOk kz && (decide (ds.length = kz.length) && decide (ds.length ≤ lim)) then some (.lst (sortBy ds kz)) else none

/-! ### the language -/
/-- a part of a clause's answer: a text, or what the exception keeps at a name -/
inductive RtP where
  | txt (x : Str) | fld (n : Str)
/-- a clause: does it take an exception of the class c; what it answers -/
structure HdR where
  xm : List (Str × Bool)
  ret : List RtP
def rtD (e : D) : RtP → Option D
  | .txt x => some (.str x)
  | .fld n => match e with | .tup [.str m, d] => if m = n then some d else none | _ => none
def rtDs (e : D) : List RtP → Option (List D)
  | [] => some []
  | p :: r => (rtD e p).bind fun d => (rtDs e r).map fun ds => d :: ds
inductive Tg where
  | name (i : Nat)
  | tup (is : List Nat)
mutual
inductive E where
  | var (i : Nat) | lit (d : D)
  | bin (o : Bop) (a b : E) | neg (a : E)
  | cmp (o : Cop) (a b : E) | chain (o o' : Cop) (a b c : E)
  | isN (neg : Bool) (a : E)
  | andE (a b : E) | orE (a b : E) | notE (a : E) | ite (c a b : E) | tru (a : E) | bad | met (tag : Str) (hs : List HdR) (body : E)
  | tup (es : Es) | new (fr : Bool) (n : N)
  | dsp (es : Es) | dcomp (own : List Nat) (k v : E) (tg : Tg) (it : I) (cs : Es)
  | setd (o k v : E) | updt (o x : E) | callv (f : E) (es : Es) | tupD (e : E) | shw (e : E)
  | call (f : Nat) (es : Es) | blt (b : Blt) (es : Es) | mth (m : Mth) (o : E) (es : Es)
  | idx (a b : E) | slc (a : E) (lo hi : Es) | rev (a : E)
inductive Es where
  | nil | cons (e : E) (es : Es) | star (e : E) (es : Es)
/-- what makes a new object -/
inductive N where
  | disp (es : Es)
  | comp (own : List Nat) (elt : E) (tg : Tg) (it : I) (cs : Es)
  | comp2 (own own1 : List Nat) (elt : E) (tg : Tg) (it : I) (cs : Es) (tg1 : Tg) (it1 : I) (cs1 : Es)
  | listOf (a : E)
  | listRg (a b : E)
  | sorted (a : E) | sortedD (a : E) | listD (a : E) | cat (a b : E)
  | sortK (it : I) (p : Nat) (body : E)
  | dict0
/-- what is walked -/
inductive I where
  | seq (e : E) | range (a b : E) | enum (e : E) | zip (a b : E) | keys (e : E) | items (e : E) | vals (e : E)
end
mutual
inductive S where
  | asg (t : Tg) (e : E) | asgIx (o i : E) (j : Nat) (e : E) | aug (i : Nat) (o : Bop) (e : E) | setI (o i e : E)
  | ex (e : E) | ret (e : E) | ite (c : E) (a b : Ss) | «for» (t : Tg) (it : I) (b : Ss) | whil (c : E) (b : Ss)
  | pass | brk | cont | raise (c : Str) (es : Es) | raisev (c n : Str) (e : E) | bad
inductive Ss where
  | nil | cons (s : S) (ss : Ss)
end
def wipe (L : Lo) : List Nat → Lo
  | [] => L
  | v :: vs => (wipe L vs).set v none
def asgs : List Nat → List D → Lo → Option Lo
  | [], [], L => some L
  | i :: is, d :: ds, L => asgs is ds (L.set i (some d))
  | _, _, _ => none
def asg (t : Tg) (d : D) (L : Lo) : Option Lo := match t with
  | .name i => some (L.set i (some d))
  | .tup is => match d with | .tup l => asgs is l L | _ => none
structure Cl where
  call : Nat → List D → List D → R D
  fuel : Nat
  low : Nat → List D → List D → R D
  hi : Bool
def metH : List HdR → Str → Option (List RtP)
  | [], _ => none
  | h :: r, c => match h.xm.lookup c with
    | some true => some h.ret
    | some false => metH r c
    | none => none
def metR (tag : Str) (hs : List HdR) : R D → R D
  | .ok d M => .ok (.tup [.str tag, d]) M
  | .exc c e M => match (metH hs c).bind (rtDs e) with | some ds => .ok (.tup ds) M | none => .bad
  | .bad => .bad
def Cl.lower (cl : Cl) : Cl := ⟨cl.low, cl.fuel, fun _ _ _ => .bad, false⟩
/-- what is walked: the items, and the place whose list must stand meanwhile -/
structure Wk where
  items : List D
  src : Option (Nat × D)
def Wk.ok (w : Wk) (M : List D) : Bool := match w.src with
  | none => true
  | some p => match M[p.1]? with | some d => bq d p.2 | none => false
def seqS (M : List D) (x : D) : Option Wk := match x with
  | .tup l => some ⟨l, none⟩
  | .lst l => some ⟨l, none⟩
  | .scr l => some ⟨l, none⟩
  | .ref n => match M[n]? with | some (.lst l) => some ⟨l, some (n, .lst l)⟩ | _ => none
  | _ => none
def pairD (p : D × D) : D := .tup [p.1, p.2]
def itmS (M : List D) (x : D) : Option Wk := match x with
  | .ref n => match M[n]? with | some (.dct (e + 1) l) => some ⟨l.map pairD, some (n, .dct (e + 1) l)⟩ | _ => none
  | .dct _ l => some ⟨l.map pairD, none⟩
  | _ => none
def valS (M : List D) (x : D) : Option Wk := match x with
  | .ref n => match M[n]? with | some (.dct (e + 1) l) => some ⟨l.map (·.2), some (n, .dct (e + 1) l)⟩ | _ => none
  | .dct _ l => some ⟨l.map (·.2), none⟩
  | _ => none
def keyS (M : List D) (x : D) : Option Wk := match x with
  | .ref n => match M[n]? with | some (.dct (e + 1) l) => some ⟨l.map (·.1), some (n, .dct (e + 1) l)⟩ | _ => none
  | .dct _ l => some ⟨l.map (·.1), none⟩
  | _ => none
/-- what a star lays into a display -/
def starS (M : List D) (x : D) : Option (List D) := match cont M x with
  | some (.tup l) => some l
  | some (.lst l) => some l
  | _ => none
def rgL (a b : Int) : List D := (List.range (b - a).toNat).map fun i => .int (a + (i : Nat))
def rgOk (a b : Int) : Bool := decide (-(2 ^ 62) ≤ a) && (decide (a < 2 ^ 62) && (decide (-(2 ^ 62) ≤ b) && decide (b < 2 ^ 62)))
def enumL : Int → List D → List D
  | _, [] => []
  | i, d :: r => .tup [.int i, d] :: enumL (i + 1) r
def zipL : List D → List D → List D
  | a :: r, b :: s => .tup [a, b] :: zipL r s
  | _, _ => []
def compL (w : Wk) (tg : Tg) (L : Lo) (cnd : Lo → List D → R D) (elt : Lo → List D → R D) : List D → List D → R (List D)
  | [], M => if w.ok M then .ok [] M else .bad
  | x :: r, M => if w.ok M then
      match asg tg x L with
      | none => .bad
      | some L1 => (cnd L1 M).bind fun x M1 => (ofO (truth M1 x) M1).bind fun b M1 => if b then (elt L1 M1).bind fun y M2 => (compL w tg L cnd elt r M2).bind fun ys M3 => .ok (y :: ys) M3 else compL w tg L cnd elt r M1
    else .bad
/-- the keys of items -/
def mapE (f : Lo → List D → R D) (p : Nat) (L : Lo) : List D → List D → R (List D)
  | [], M => .ok [] M
  | x :: r, M => (f (L.set p (some x)) M).bind fun k M1 => (mapE f p L r M1).bind fun ks M2 => .ok (k :: ks) M2
/-- two `for`: the inner one makes a list for each turn of the outer one -/
def compL2 (w : Wk) (tg : Tg) (L : Lo) (cnd : Lo → List D → R D) (inner : Lo → List D → R (List D)) : List D → List D → R (List D)
  | [], M => if w.ok M then .ok [] M else .bad
  | x :: r, M => if w.ok M then
      match asg tg x L with
      | none => .bad
      | some L1 => (cnd L1 M).bind fun x M1 => (ofO (truth M1 x) M1).bind fun b M1 => if b then (inner L1 M1).bind fun ys M2 => (compL2 w tg L cnd inner r M2).bind fun zs M3 => .ok (ys ++ zs) M3 else compL2 w tg L cnd inner r M1
    else .bad
/-- a dict at a place -/
def isDr (M : List D) (x : D) : Bool := match x with | .ref n => (match M[n]? with | some (.dct _ _) => true | _ => false) | _ => false
/-- keys and values by turns -/
def pairUp : List D → Option (List (D × D))
  | [] => some []
  | k :: v :: r => (pairUp r).map fun ps => (k, v) :: ps
  | _ => none
/-- a dict display: of at most fifteen pairs -/
def dispS (ps : List (D × D)) : Option (List (D × D)) := if ps.length ≤ 15 then (dPuts 0 [] ps).map (·.2) else none
def dcompL (w : Wk) (tg : Tg) (L : Lo) (cnd : Lo → List D → R D) (kf vf : Lo → List D → R D) : List D → List (D × D) → List D → R (List (D × D))
  | [], l, M => if w.ok M then .ok l M else .bad
  | x :: r, l, M => if w.ok M then
      match asg tg x L with
      | none => .bad
      | some L1 => (cnd L1 M).bind fun x M1 => (ofO (truth M1 x) M1).bind fun b M1 => if b then (kf L1 M1).bind fun k M2 => (vf L1 M2).bind fun v M3 => (ofO (dPut 0 l k v) M3).bind fun q M3 => dcompL w tg L cnd kf vf r q.2 M3 else dcompL w tg L cnd kf vf r l M1
    else .bad
mutual
def evE (cl : Cl) : E → Lo → List D → R D
  | .var i, L, M => match L[i]? with | some (some d) => .ok d M | _ => .bad
  | .lit d, _, M => .ok d M
  | .bin o a b, L, M => (evE cl a L M).bind fun x M1 => (evE cl b L M1).bind fun y M2 => ofO (binS M2 o x y) M2
  | .neg a, L, M => (evE cl a L M).bind fun x M1 => match x with | .int i => .ok (.int (-i)) M1 | _ => .bad
  | .cmp o a b, L, M => (evE cl a L M).bind fun x M1 => (evE cl b L M1).bind fun y M2 => ofO ((cmpS M2 o x y).map .bl) M2
  | .chain o o' a b c, L, M => (evE cl a L M).bind fun x M1 => (evE cl b L M1).bind fun y M2 => (ofO (cmpS M2 o x y) M2).bind fun k M2 =>
      if k then (evE cl c L M2).bind fun z M3 => ofO ((cmpS M3 o' y z).map .bl) M3 else .ok (.bl false) M2
  | .isN neg a, L, M => (evE cl a L M).bind fun x M1 => .ok (.bl (neg != (match x with | .non => true | _ => false))) M1
  | .andE a b, L, M => (evE cl a L M).bind fun x M1 => match x with | .bl true => evE cl b L M1 | .bl false => .ok (.bl false) M1 | _ => .bad
  | .orE a b, L, M => (evE cl a L M).bind fun x M1 => match x with | .bl false => evE cl b L M1 | .bl true => .ok (.bl true) M1 | _ => .bad
  | .notE a, L, M => (evE cl a L M).bind fun x M1 => match x with | .bl b => .ok (.bl (!b)) M1 | _ => .bad
  | .ite c a b, L, M => (evE cl c L M).bind fun x M1 => (ofO (truth M1 x) M1).bind fun k M1 => if k then evE cl a L M1 else evE cl b L M1
  | .bad, _, _ => .bad
  | .met tag hs b, L, M => if cl.hi then metR tag hs (evE cl.lower b L M) else .bad
  | .tru a, L, M => (evE cl a L M).bind fun x M1 => (ofO (truth M1 x) M1).bind fun k M1 => .ok (.bl k) M1
  | .tup es, L, M => (evEs cl es L M).bind fun vs M1 => if vs.length ≤ lim then .ok (.tup vs) M1 else .bad
  | .new fr n, L, M => (evN cl n L M).bind fun d M1 => if fr then .ok d M1 else .ok (.ref M1.length) (M1 ++ [d])
  | .call f es, L, M => (evEs cl es L M).bind fun vs M1 => cl.call f vs M1
  | .callv f es, L, M => (evE cl f L M).bind fun x M1 => match x with | .fn n => (evEs cl es L M1).bind fun vs M2 => cl.call n vs M2 | _ => .bad
  | .dsp es, L, M => ((evEs cl es L M).nx).bind fun vs M1 => (ofO ((pairUp vs).bind dispS) M1).bind fun l M2 => .ok (.dct 0 l) M2
  | .dcomp own k v tg it cs, L, M => (evI cl it L M).bind fun w M1 => if w.items.length ≤ lim then ((dcompL w tg (wipe L own) (evC cl cs) (evE cl k) (evE cl v) w.items [] M1).nx).bind fun l M2 => .ok (.dct 0 l) M2 else .bad
  | .setd o k v, L, M => (evE cl o L M).bind fun x M1 => if isDr M1 x then (evE cl k L M1).bind fun y M2 => (evE cl v L M2).bind fun z M3 => (match setdS M3 x y z with | some (d, M4) => .ok d M4 | none => .bad) else .bad
  | .tupD e, L, M => (evE cl e L M).bind fun x M1 => match cont M1 x with | some (.dct _ l) => .ok (.tup (l.map (·.1))) M1 | _ => .bad
  | .shw e, L, M => (evE cl e L M).bind fun x M1 => ofO (shwS M1 x) M1
  | .updt o e, L, M => (evE cl o L M).bind fun x M1 => if isDr M1 x then (evE cl e L M1).bind fun y M2 => (match updS M2 x y with | some M3 => .ok .non M3 | none => .bad) else .bad
  | .blt b es, L, M => (evEs cl es L M).bind fun vs M1 => ofO (bltS M1 b vs) M1
  | .mth m o es, L, M => (evE cl o L M).bind fun x M1 => if mthK M1 x then (evEs cl es L M1).bind fun vs M2 => (match mthS M2 m x vs with | some (d, M3) => .ok d M3 | none => .bad) else .bad
  | .idx a b, L, M => (evE cl a L M).bind fun x M1 => (evE cl b L M1).bind fun y M2 => ofO (idxS M2 x y) M2
  | .slc a lo hi, L, M => (evE cl a L M).bind fun x M1 => (evP cl lo L M1).bind fun u M2 => (evP cl hi L M2).bind fun v M3 => ofO (slcS M3 x u v) M3
  | .rev a, L, M => (evE cl a L M).bind fun x M1 => ofO (revS M1 x) M1
def evP (cl : Cl) : Es → Lo → List D → R (Option Int)
  | .nil, _, M => .ok none M
  | .star _ _, _, _ => .bad
  | .cons e _, L, M => (evE cl e L M).bind fun d M1 => match d with | .int i => .ok (some i) M1 | _ => .bad
def evEs (cl : Cl) : Es → Lo → List D → R (List D)
  | .nil, _, M => .ok [] M
  | .cons e es, L, M => (evE cl e L M).bind fun v M1 => (evEs cl es L M1).bind fun vs M2 => .ok (v :: vs) M2
  | .star e es, L, M => (evE cl e L M).bind fun v M1 => (ofO (starS M1 v) M1).bind fun us M1 => (evEs cl es L M1).bind fun vs M2 => .ok (us ++ vs) M2
def evC (cl : Cl) : Es → Lo → List D → R D
  | .nil, _, M => .ok (.bl true) M
  | .star _ _, _, _ => .bad
  | .cons e _, L, M => evE cl e L M
def evN (cl : Cl) : N → Lo → List D → R D
  | .disp es, L, M => (evEs cl es L M).bind fun vs M1 => if vs.length ≤ lim then .ok (.lst vs) M1 else .bad
  | .comp own elt tg it cs, L, M => (evI cl it L M).bind fun w M1 =>
      if w.items.length ≤ lim then ((compL w tg (wipe L own) (evC cl cs) (evE cl elt) w.items M1).nx).bind fun vs M2 => .ok (.lst vs) M2 else .bad
  | .comp2 own own1 elt tg it cs tg1 it1 cs1, L, M => (evI cl it L M).bind fun w M1 =>
      ((compL2 w tg (wipe L own) (evC cl cs) (fun L1 M => (evI cl it1 L1 M).bind fun w1 M1 => (compL w1 tg1 (wipe L1 own1) (evC cl cs1) (evE cl elt) w1.items M1)) w.items M1).nx).bind fun vs M2 => if vs.length ≤ lim then .ok (.lst vs) M2 else .bad
  | .listOf a, L, M => (evE cl a L M).bind fun x M1 => match cont M1 x with | some (.lst l) => .ok (.lst l) M1 | some (.tup l) => .ok (.lst l) M1 | some (.scr l) => .ok (.lst l) M1 | _ => .bad
  | .listRg a b, L, M => (evE cl a L M).bind fun x M1 => (evE cl b L M1).bind fun y M2 => match x, y with | .int i, .int j => if rgOk i j && decide ((j - i).toNat ≤ 2 ^ 24) then .ok (.lst (rgL i j)) M2 else .bad | _, _ => .bad
  | .cat a b, L, M => (evE cl a L M).bind fun x M1 => (evE cl b L M1).bind fun y M2 => match cont M2 x, cont M2 y with | some (.lst l), some (.lst r) => if l.length + r.length ≤ lim then .ok (.lst (l ++ r)) M2 else .bad | _, _ => .bad
  | .sorted a, L, M => (evE cl a L M).bind fun x M1 => match cont M1 x with
      | some (.lst l) => ofO ((allInts l).map fun ns => .lst ((sortI ns).map .int)) M1
      | some (.tup l) => ofO ((allInts l).map fun ns => .lst ((sortI ns).map .int)) M1
      | _ => .bad
  | .sortK it p body, L, M => (evI cl it L M).bind fun w M1 => if cl.hi then (if w.items.length ≤ lim then ((mapE (evE cl.lower body) p L w.items M1).nx).bind fun ks M2 => ofO (sortD w.items ks) M2 else .bad) else .bad
  | .listD a, L, M => (evE cl a L M).bind fun x M1 => match cont M1 x with | some (.dct _ l) => .ok (.lst (l.map (·.1))) M1 | _ => .bad
  | .sortedD a, L, M => (evE cl a L M).bind fun x M1 => match cont M1 x with
      | some (.dct _ l) => ofO (sortD (l.map (·.1)) (l.map (·.1))) M1
      | some (.lst l) => ofO (sortD l l) M1
      | some (.tup l) => ofO (sortD l l) M1
      | _ => .bad
  | .dict0, _, M => .ok (.dct 1 []) M
def evI (cl : Cl) : I → Lo → List D → R Wk
  | .keys e, L, M => (evE cl e L M).bind fun x M1 => ofO (keyS M1 x) M1
  | .items e, L, M => (evE cl e L M).bind fun x M1 => ofO (itmS M1 x) M1
  | .vals e, L, M => (evE cl e L M).bind fun x M1 => ofO (valS M1 x) M1
  | .seq e, L, M => (evE cl e L M).bind fun x M1 => ofO (seqS M1 x) M1
  | .range a b, L, M => (evE cl a L M).bind fun x M1 => (evE cl b L M1).bind fun y M2 => match x, y with | .int i, .int j => if rgOk i j then .ok ⟨rgL i j, none⟩ M2 else .bad | _, _ => .bad
  | .enum e, L, M => (evE cl e L M).bind fun x M1 => match x with | .tup l => .ok ⟨enumL 0 l, none⟩ M1 | .lst l => .ok ⟨enumL 0 l, none⟩ M1 | _ => .bad
  | .zip a b, L, M => (evE cl a L M).bind fun x M1 => (evE cl b L M1).bind fun y M2 => match x, y with | .tup l, .tup r => .ok ⟨zipL l r, none⟩ M2 | .lst l, .lst r => .ok ⟨zipL l r, none⟩ M2 | _, _ => .bad
end

/-! ### statements -/
inductive RS where
  | next (L : Lo) (M : List D) | ret (d : D) (M : List D) | brk (L : Lo) (M : List D) | cont (L : Lo) (M : List D)
  | exc (c : Str) (e : D) (L : Lo) (M : List D) | bad
def RS.seq (r : RS) (f : Lo → List D → RS) : RS := match r with
  | .next L M => f L M
  | r => r
def R.then (L : Lo) {α : Type} (r : R α) (f : α → List D → RS) : RS := match r with
  | .ok a M => f a M
  | .exc c e M => .exc c e L M
  | .bad => .bad
@[simp] theorem RS.seq_next (L : Lo) (M : List D) (f : Lo → List D → RS) : (RS.next L M).seq f = f L M := rfl
@[simp] theorem RS.seq_ret (d : D) (M : List D) (f : Lo → List D → RS) : (RS.ret d M).seq f = .ret d M := rfl
@[simp] theorem R.then_ok {α : Type} (L : Lo) (a : α) (M : List D) (f : α → List D → RS) : (R.ok a M).then L f = f a M := rfl
def forL (w : Wk) (tg : Tg) (body : Lo → List D → RS) : List D → Lo → List D → RS
  | [], L, M => if w.ok M then .next L M else .bad
  | x :: r, L, M => if w.ok M then
      match asg tg x L with
      | none => .bad
      | some L1 => match body L1 M with
        | .next L2 M2 => forL w tg body r L2 M2
        | .cont L2 M2 => forL w tg body r L2 M2
        | .brk L2 M2 => .next L2 M2
        | .ret d M2 => .ret d M2
        | .exc c e L2 M2 => .exc c e L2 M2
        | .bad => .bad
    else .bad
def whileL (c : Lo → List D → R D) (body : Lo → List D → RS) : Nat → Lo → List D → RS
  | 0, _, _ => .bad
  | n + 1, L, M => (c L M).then L fun x M1 => (ofO (truth M1 x) M1).then L fun k M1 => if k then
      match body L M1 with
      | .next L2 M2 => whileL c body n L2 M2
      | .cont L2 M2 => whileL c body n L2 M2
      | .brk L2 M2 => .next L2 M2
      | .ret d M2 => .ret d M2
      | .exc c e L2 M2 => .exc c e L2 M2
      | .bad => .bad
    else .next L M1
mutual
def exS (cl : Cl) : S → Lo → List D → RS
  | .asg t e, L, M => (evE cl e L M).then L fun d M1 => match asg t d L with | some L1 => .next L1 M1 | none => .bad
  | .asgIx o i j e, L, M => (evE cl e L M).then L fun d M1 => match d with
    | .tup [x, y] => (evE cl o L M1).then L fun u M2 => (evE cl i L M2).then L fun k M3 => match setS M3 u k x with | some M4 => .next (L.set j (some y)) M4 | none => .bad
    | _ => .bad
  | .aug i o e, L, M => match L[i]? with
    | some (some x) => (evE cl e L M).then L fun y M1 => match x, y with | .int a, .int b => (match intS o a b with | some z => .next (L.set i (some (.int z))) M1 | none => .bad) | _, _ => .bad
    | _ => .bad
  | .setI o i e, L, M => (evE cl e L M).then L fun v M1 => (evE cl o L M1).then L fun x M2 => (evE cl i L M2).then L fun y M3 => match setS M3 x y v with | some M4 => .next L M4 | none => .bad
  | .ex e, L, M => (evE cl e L M).then L fun _ M1 => .next L M1
  | .ret e, L, M => (evE cl e L M).then L fun d M1 => .ret d M1
  | .ite c a b, L, M => (evE cl c L M).then L fun x M1 => (ofO (truth M1 x) M1).then L fun k M1 => if k then exSs cl a L M1 else exSs cl b L M1
  | .for t it b, L, M => (evI cl it L M).then L fun w M1 => forL w t (exSs cl b) w.items L M1
  | .whil c b, L, M => whileL (evE cl c) (exSs cl b) cl.fuel L M
  | .pass, L, M => .next L M
  | .bad, _, _ => .bad
  | .brk, L, M => .brk L M
  | .cont, L, M => .cont L M
  | .raisev c n e, L, M => if cl.hi then (evE cl e L M).then L fun d M1 => .exc c (.tup [.str n, d]) L M1 else .bad
  | .raise c es, L, M => (evEs cl es L M).then L fun vs M1 => match vs with | [d] => .exc c d L M1 | _ => .exc c .non L M1
def exSs (cl : Cl) : Ss → Lo → List D → RS
  | .nil, L, M => .next L M
  | .cons s ss, L, M => (exS cl s L M).seq fun L1 M1 => exSs cl ss L1 M1
end

/-! ### defs -/
structure FD where
  kp : Bool := false
  np : Nat
  nl : Nat
  body : Ss
  pu : Bool := false
/-- behind a call: what the call made and nobody holds is forgotten, the answer frozen -/
def clean (M : List D) (d : D) (M' : List D) : R D :=
  if bqs (M'.take M.length) M || bels M.length (M'.take M.length) then
    match frz M' M.length 6 d with
    | some d' => .ok d' (M'.take M.length)
    | none => .bad
  else .ok d M'
/-- kp: the answer stays what it is -/
def ends (kp : Bool) (M : List D) (d : D) (M' : List D) : R D := if kp then .ok d M' else clean M d M'
/-- behind a call that an exception leaves -/
def endX (M : List D) (c : Str) (e : D) (M' : List D) : R D := if bel M.length e && (bqs (M'.take M.length) M || bels M.length (M'.take M.length)) then .exc c e (M'.take M.length) else .exc c e M'
def fin (kp : Bool) (M : List D) : RS → R D
  | .next _ M' => ends kp M .non M'
  | .ret d M' => ends kp M d M'
  | .exc c e _ M' => endX M c e M'
  | _ => .bad
/-- behind a call that touches nothing of the caller -/
def finP (M : List D) : R D → R D
  | .ok d _ => if clo d then .ok d M else .bad
  | .exc c e _ => if clo e then .exc c e M else .bad
  | .bad => .bad
/-- pu: the def gets closed data alone, and works in a small heap of its own -/
def runB (T : List FD) (cl : Cl) (f : Nat) (args M : List D) : R D := match T[f]? with
  | none => .bad
  | some fd => if args.length = fd.np then (if fd.pu then (if bels 0 args then finP M (fin false [] (exSs cl fd.body (args.map some ++ List.replicate (fd.nl - fd.np) none) [])) else .bad)
      else fin fd.kp M (exSs cl fd.body (args.map some ++ List.replicate (fd.nl - fd.np) none) M)) else .bad
def runF (T : List FD) (fuel : Nat) : Nat → Nat → List D → List D → R D
  | 0 => fun _ _ _ => .bad
  | 1 => runB T ⟨runF T fuel 0, fuel, fun _ _ _ => .bad, false⟩
  | 2 => runB T ⟨runF T fuel 1, fuel, fun _ _ _ => .bad, false⟩
  | k + 3 => runB T ⟨runF T fuel (k + 2), fuel, runF T fuel k, true⟩
/-- what a body at the call depth k + 1 has -/
def clOf (T : List FD) (fuel : Nat) : Nat → Cl
  | 0 => ⟨runF T fuel 0, fuel, fun _ _ _ => .bad, false⟩
  | 1 => ⟨runF T fuel 1, fuel, fun _ _ _ => .bad, false⟩
  | k + 2 => ⟨runF T fuel (k + 2), fuel, runF T fuel k, true⟩
theorem runF_succ (T : List FD) (fuel k : Nat) : runF T fuel (k + 1) = runB T (clOf T fuel k) := by
  match k with
  | 0 => rfl
  | 1 => rfl
  | k + 2 => rfl
theorem clOf_call (T : List FD) (fuel k : Nat) : (clOf T fuel k).call = runF T fuel k := by
  match k with
  | 0 => rfl
  | 1 => rfl
  | k + 2 => rfl
theorem clOf_low {T : List FD} {fuel k : Nat} (h : (clOf T fuel k).hi = true) : ∃ j, k = j + 2 ∧ (clOf T fuel k).low = runF T fuel j := by
  match k, h with
  | 0, h => cases h
  | 1, h => cases h
  | k + 2, _ => exact ⟨k, rfl, rfl⟩

end MP
/-! MiniPy K0: the search in a dict whose keys are any data that can be keys. -/
namespace MP
open PySem PySem.Spec PyProof.Rows L2
/-- an entry: its key, the key as a value, its value -/
abbrev KE3 := NestedKey × Value × Value
def entV (w : World) (x : KE3) : DictEntry := ⟨x.1.hash w, x.2.1, x.2.2⟩
structure KOk (h : Heap) (k : NestedKey) (v : Value) : Prop where
  is : NestedIs h k v
  dp : k.depth ≤ 8
section
variable {prog : Program} {w : World} {A : Around} {E : Value → Shared → Prop} {s : Shared} {d : Addr} {o : Obj} {es : Array DictEntry} {ep : Nat} {xs : List KE3} {k : NestedKey} {key : Value}
theorem entV_at (he : es.toList = xs.map (entV w)) (j : Nat) : es[j]? = (xs[j]?).map (entV w) := by
  rw [← Array.getElem?_toList, he, List.getElem?_map]
theorem ke_unique (hn : (xs.map (·.1)).Nodup) {i j : Nat} {p q : Value × Value} (hi : xs[i]? = some (k, p)) (hj : xs[j]? = some (k, q)) : i = j := by
  have h1 : (xs.map (·.1))[i]? = some k := by rw [List.getElem?_map, hi]; rfl
  have h2 : (xs.map (·.1))[j]? = some k := by rw [List.getElem?_map, hj]; rfl
  exact (List.getElem?_inj (List.getElem?_eq_some_iff.mp h1).1 hn).mp (h1.trans h2.symm)
theorem ko_eq {x : NestedKey} {a b : Value} {Q : Bool → Shared → Prop} (hu : A.units + 8 < cLine) (hx : KOk s.heap x a) (hy : KOk s.heap k b) (h : Q (decide (x = k)) s) : wpAny (model prog w) A (eqBool a b) Q E s :=
  eqAt_key x k A s a b hx.is hy.is (by have := hx.dp; omega) _ _ _ _ (by rw [← NestedKey.decide_eq]; exact h)
/-- where the walk stands: what is behind it, what it has found -/
def KSt (xs : List KE3) (k : NestedKey) (done : List Nat) (hit : Option Nat) : Prop := (hit = none ∧ ∀ j ∈ done, ∀ p, xs[j]? ≠ some (k, p)) ∨ ∃ j p, hit = some j ∧ j ∈ done ∧ xs[j]? = some (k, p)
theorem pl_mem (he : es.toList = xs.map (entV w)) {j : Nat} {p : Value × Value} (h : xs[j]? = some (k, p)) : j ∈ placesWithHash es.size (fun i => es[i]?.map (·.hash)) (k.hash w) := by
  unfold placesWithHash
  have hj := (List.getElem?_eq_some_iff.mp h).1
  have hs : es.size = xs.length := by rw [← Array.length_toList, he, List.length_map]
  refine List.mem_filter.mpr ⟨List.mem_range.mpr (by omega), ?_⟩
  show ((es[j]?.map (·.hash)) == some (k.hash w)) = true
  rw [entV_at he j, h]
  simp [entV]
theorem pl_nodup (hs : Nat) (f : Nat → Option Int) (z : Int) : (placesWithHash hs f z).Nodup := (List.nodup_range (n := hs)).sublist List.filter_sublist
theorem pl_at (he : es.toList = xs.map (entV w)) {z : Int} {j : Nat} (h : j ∈ placesWithHash es.size (fun i => es[i]?.map (·.hash)) z) : ∃ x, xs[j]? = some x ∧ es[j]? = some (entV w x) ∧ x.1.hash w = z := by
  unfold placesWithHash at h
  obtain ⟨h1, h2⟩ := List.mem_filter.mp h
  have h2' : ((es[j]?.map (·.hash)) == some z) = true := h2
  rw [entV_at he j] at h2'
  cases hx : xs[j]? with
  | none => rw [hx] at h2'; cases h2'
  | some x =>
    rw [hx] at h2'
    refine ⟨x, rfl, by rw [entV_at he j, hx]; rfl, by simpa [entV] using h2'⟩
theorem kst_next {done : List Nat} {hit : Option Nat} {j : Nat} {x : KE3} (h : KSt xs k done hit) (hx : xs[j]? = some x) (hne : ¬ x.1 = k) : KSt xs k (done ++ [j]) hit := by
  rcases h with ⟨h1, h2⟩ | ⟨i, p, h1, h2, h3⟩
  · refine .inl ⟨h1, fun i hi p hp => ?_⟩
    rcases List.mem_append.mp hi with q | q
    · exact h2 i q p hp
    · have : i = j := by simpa using q
      subst this
      rw [hx] at hp
      cases hp
      exact hne rfl
  · exact .inr ⟨i, p, h1, List.mem_append_left _ h2, h3⟩
/-- the plain walk -/
theorem wp_walkPlain {Q : Option Nat → Shared → Prop} (hu : A.units + 8 < cLine) (hkey : KOk s.heap k key) (ho : s.heap.get? d = some o) (hd : o.data = .dict es ep) (he : es.toList = xs.map (entV w)) (his : ∀ x ∈ xs, KOk s.heap x.1 x.2.1)
    (hnone : (∀ (j : Nat) (p : Value × Value), xs[j]? ≠ some (k, p)) → Q none s) (hsome : ∀ (j : Nat) (p : Value × Value), xs[j]? = some (k, p) → Q (some j) s) :
    wpAny (model prog w) A (dictWalkPlain d key (k.hash w) es (placesWithHash es.size (fun i => es[i]?.map (·.hash)) (k.hash w))) Q E s := by
  have hall := pl_nodup es.size (fun i => es[i]?.map (·.hash)) (k.hash w)
  obtain ⟨pl, hpl⟩ : ∃ pl, pl = placesWithHash es.size (fun i => es[i]?.map (·.hash)) (k.hash w) := ⟨_, rfl⟩
  unfold dictWalkPlain
  rw [← hpl]
  refine wpAny_bind (wpAny_forIn_list _ (fun rest b s' => s' = s ∧ b = (none, ()) ∧ ∃ done, pl = done ++ rest ∧ KSt xs k done none) _ ?_ ?_ _ _ ⟨rfl, rfl, [], rfl, .inl ⟨rfl, fun _ h => nomatch h⟩⟩)
  · rintro j rest b s' ⟨rfl, rfl, done, hd2, st⟩
    obtain ⟨x, hx, hex, hh⟩ := pl_at he (show j ∈ _ from hpl ▸ (hd2 ▸ List.mem_append_right _ List.mem_cons_self))
    rw [hex]
    dsimp only
    rw [if_pos (show ((entV w x).hash == k.hash w) = true by simp [entV, hh])]
    refine wpAny_bind (wpAny_dictEpoch ho hd (wpAny_bind (ko_eq hu (his x (List.mem_of_getElem? hx)) hkey (wpAny_bind (wpAny_dictEpoch ho hd ?_)))))
    rw [if_neg (show ¬ (ep != ep) = true by simp)]
    by_cases hk : x.1 = k
    · rw [decide_eq_true hk]
      obtain ⟨xk, xp⟩ := x
      replace hk : xk = k := hk
      subst hk
      first
        | exact wpAny_bind (wpAny_rule (wpAny_pure (wpAny_pure (hsome j xp hx))))
        | (simp only [if_true]; exact wpAny_bind (wpAny_rule (wpAny_pure (wpAny_pure (hsome j xp hx)))))
    · rw [decide_eq_false hk]
      have nx : KSt xs k (done ++ [j]) none := kst_next st hx hk
      simp only [Bool.false_eq_true, if_false]
      first
        | exact wpAny_bind (wpAny_rule (wpAny_pure ⟨rfl, rfl, done ++ [j], by rw [hd2]; simp, nx⟩))
        | exact wpAny_bind (wpAny_pure (wpAny_bind (wpAny_rule (wpAny_pure ⟨rfl, rfl, done ++ [j], by rw [hd2]; simp, nx⟩))))
  · rintro b s' ⟨rfl, rfl, done, hd2, st⟩
    rw [List.append_nil] at hd2
    refine wpAny_pure (hnone fun j p hj => ?_)
    have hm := pl_mem (w := w) he hj
    rw [← hpl, hd2] at hm
    rcases st with ⟨_, h2⟩ | ⟨i, q, h1, _⟩
    · exact h2 j hm p hj
    · cases h1
theorem wp_if {α : Type} {M : Model} {c : Bool} {x y : Sem α} {Q : α → Shared → Prop} (h1 : c = true → wpAny M A x Q E s) (h2 : ¬ c = true → wpAny M A y Q E s) : wpAny M A (if c = true then x else y) Q E s := by
  by_cases h : c = true
  · rw [if_pos h]
    exact h1 h
  · rw [if_neg h]
    exact h2 h
theorem wp_tellsNot {st : List Value} {Q : Bool → Shared → Prop} (hkey : KOk s.heap k key) (hst : ∀ v ∈ st, ∃ k', KOk s.heap k' v) (h : Q false s) : wpAny (model prog w) A (tableMayTell key st) Q E s := by
  unfold tableMayTell
  split
  · exact wpAny_pure h
  · refine wpAny_bind (quiet_key k key 8 s hkey.is hkey.dp A E _ ?_)
    simp only [Bool.not_true, Bool.false_eq_true, if_false]
    refine wpAny_bind (wpAny_forIn_list _ (fun rest r s' => s' = s ∧ r = (none, ()) ∧ ∀ v ∈ rest, ∃ k', KOk s.heap k' v) _ ?_ ?_ _ _ ⟨rfl, rfl, hst⟩)
    · rintro x rest r s' ⟨rfl, rfl, hr⟩
      obtain ⟨k', hb⟩ := hr x List.mem_cons_self
      refine wpAny_bind (quiet_key k' x 8 s' hb.is hb.dp A E _ ?_)
      simp only [Bool.not_true, Bool.false_eq_true, if_false]
      exact wpAny_pure ⟨rfl, rfl, fun v hv => hr v (List.mem_cons_of_mem _ hv)⟩
    · rintro r s' ⟨rfl, rfl, _⟩
      exact wpAny_pure h
/-- the search -/
theorem wp_findV {Q : Option Nat → Shared → Prop} (hu : A.units + 8 < cLine) (hkey : KOk s.heap k key) (ho : s.heap.get? d = some o) (hd : o.data = .dict es ep) (he : es.toList = xs.map (entV w)) (his : ∀ x ∈ xs, KOk s.heap x.1 x.2.1) (hn : (xs.map (·.1)).Nodup)
    (hnone : (∀ (j : Nat) (p : Value × Value), xs[j]? ≠ some (k, p)) → Q none s) (hsome : ∀ (j : Nat) (p : Value × Value), xs[j]? = some (k, p) → Q (some j) s) :
    wpAny (model prog w) A (dictFind d key (k.hash w)) Q E s := by
  have plain := wp_walkPlain (prog := prog) (E := E) hu hkey ho hd he his hnone hsome
  have hst : ∀ v ∈ (placesWithHash es.size (fun i => es[i]?.map (·.hash)) (k.hash w)).filterMap (fun i => es[i]?.map (·.key)), ∃ k', KOk s.heap k' v := by
    intro v hv
    obtain ⟨j, hj, hi⟩ := List.mem_filterMap.mp hv
    obtain ⟨x, hx, hex, _⟩ := pl_at he hj
    rw [hex] at hi
    obtain rfl : x.2.1 = v := by simpa [entV] using hi
    exact ⟨x.1, his x (List.mem_of_getElem? hx)⟩
  have hall := pl_nodup es.size (fun i => es[i]?.map (·.hash)) (k.hash w)
  have hmm : ∀ {j : Nat} {p : Value × Value}, xs[j]? = some (k, p) → j ∈ placesWithHash es.size (fun i => es[i]?.map (·.hash)) (k.hash w) := fun h => pl_mem he h
  have hpa : ∀ {j : Nat}, j ∈ placesWithHash es.size (fun i => es[i]?.map (·.hash)) (k.hash w) → ∃ x, xs[j]? = some x ∧ es[j]? = some (entV w x) ∧ x.1.hash w = k.hash w := fun h => pl_at he h
  unfold dictFind
  try with_reducible refine wpAny_holding ?_
  refine wpAny_bind (wpAny_dictEntries ho hd ?_)
  generalize hpl : placesWithHash es.size (fun i => es[i]?.map (·.hash)) (k.hash w) = pl at *
  have hkey0 := hkey
  obtain ⟨St, hSt⟩ : ∃ St : List Nat → Option Nat → Prop, St = KSt xs k := ⟨_, rfl⟩
  obtain ⟨ki, kd⟩ := hkey
  have fit : ∀ {j : Nat} {x : KE3}, xs[j]? = some x → KOk s.heap x.1 x.2.1 := fun h => his _ (List.mem_of_getElem? h)
  have byStr : ∀ {y : Str} {t : Tok}, k = .text y → key = .str y t → wpAny (model prog w) A (foundByValue d key es y) Q E s := by
    intro y t ek ev
    subst ek
    unfold foundByValue
    cases hf : es.findIdx? (·.key.isStr y) with
    | none =>
      refine wpAny_pure (hnone fun j p hj => ?_)
      have hex : es[j]? = some (entV w (.text y, p)) := by rw [entV_at he j, hj]; rfl
      obtain ⟨hlt, hej⟩ := Array.getElem?_eq_some_iff.mp hex
      have hno := Array.findIdx?_eq_none_iff.mp hf es[j] (Array.getElem_mem hlt)
      rw [hej] at hno
      have := (fit hj).is
      cases hp : p.1 <;> (simp only [hp] at this; first | (cases this; done) | skip)
      · rename_i z t'
        cases this
        simp [entV, hp, Value.isStr] at hno
    | some j =>
      obtain ⟨hlt, hyes, _⟩ := Array.findIdx?_eq_some_iff_getElem.mp hf
      dsimp only
      rw [Array.getElem?_eq_getElem hlt]
      dsimp only
      have hex : es[j]? = some es[j] := Array.getElem?_eq_getElem hlt
      rw [entV_at he j] at hex
      cases hx : xs[j]? with
      | none => rw [hx] at hex; cases hex
      | some x =>
        rw [hx] at hex
        have hex' : entV w x = es[j] := Option.some.inj hex
        have hkx : x.1 = .text y := by
          rw [← hex'] at hyes
          have := (fit hx).is
          obtain ⟨x1, x2, x3⟩ := x
          simp only [entV] at hyes
          cases x2 <;> simp [Value.isStr] at hyes
          subst hyes
          cases this
          rfl
        refine wpAny_bind (wpAny_dictEpoch ho hd (wpAny_bind ?_))
        rw [← hex']
        refine ko_eq hu (fit hx) hkey0 (wpAny_bind (wpAny_dictEpoch ho hd ?_))
        rw [if_neg (show ¬ (ep != ep) = true by simp), decide_eq_true hkx]
        obtain ⟨x1, x2⟩ := x
        replace hkx : x1 = _ := hkx
        subst hkx
        first
          | exact wpAny_bind (wpAny_rule (wpAny_pure (hsome j x2 hx)))
          | (simp only [if_true]; exact wpAny_bind (wpAny_rule (wpAny_pure (hsome j x2 hx))))
  have hany : ∀ {a : Addr}, key = .ref a → ¬ (es.any fun e => e.key == Value.ref a && e.hash != k.hash w) = true := by
    intro a ea
    rw [← Array.any_toList, List.any_eq_true, he]
    rintro ⟨e, hin, hc⟩
    obtain ⟨x, hx, rfl⟩ := List.mem_map.mp hin
    simp only [entV, Bool.and_eq_true, beq_iff_eq, bne_iff_ne, ne_eq] at hc
    have h1 := (his x hx).is
    rw [hc.1, ← ea] at h1
    exact hc.2 (by rw [NestedIs.inj _ _ _ h1 hkey0.is])
  cases ki
  case' none => dsimp only
  case' bool => dsimp only
  case' int => dsimp only
  case' text y t =>
    dsimp only
    by_cases hs : (es.all fun e => isExactStrKey e.key) = true
    case pos =>
      rw [if_pos hs]
      first | exact byStr rfl rfl | exact wpAny_bind (wpAny_mono (byStr rfl rfl) (fun _ _ h => wpAny_pure h) fun _ _ e => e)
    rw [if_neg hs]
  case' tup a o' vs n ks h1 h2 h3 h4 => dsimp only
  all_goals
    refine wp_if (fun _ => ?_) fun _ => ?_
    · first | exact plain | exact wpAny_bind (wpAny_mono plain (fun _ _ h => wpAny_pure h) fun _ _ e => e) | exact wpAny_bind plain
    try rw [if_neg (hany rfl)]
    refine wp_if (fun _ => ?_) (fun _ => ?_) <;> (first | refine wpAny_bind (wpAny_pure ?_) | refine wpAny_bind (wp_tellsNot hkey0 hst ?_)) <;> (
      rw [if_neg (by simp)]
      refine wpAny_bind (wpAny_forIn_list _ (fun rest b s' => s' = s ∧ ∃ done hit, b = (none, hit) ∧ pl = done ++ rest ∧ St done hit) _ ?_ ?_ _ _ ⟨rfl, [], none, rfl, rfl, by rw [hSt]; exact .inl ⟨rfl, fun _ h => nomatch h⟩⟩)
      · rintro j rest b s' ⟨rfl, done, hit, rfl, hd2, st⟩
        rw [hSt] at st ⊢
        obtain ⟨x, hx, hex, hh⟩ := hpa (show j ∈ pl from hd2 ▸ List.mem_append_right _ List.mem_cons_self)
        rw [hex]
        dsimp only
        rw [if_pos (show ((entV w x).hash == _) = true by simp [entV, hh])]
        refine wpAny_bind (wpAny_dictEpoch ho hd (wpAny_bind (ko_eq hu (fit hx) hkey0 (wpAny_bind (wpAny_dictEpoch ho hd ?_)))))
        rw [if_neg (show ¬ (ep != ep) = true by simp)]
        refine wp_if (fun hk => ?_) fun hk => ?_
        · replace hk := of_decide_eq_true hk
          obtain ⟨xk, xp⟩ := x
          replace hk : xk = _ := hk
          subst hk
          rcases st with ⟨rfl, _⟩ | ⟨i, p, _, hi, hp⟩
          · simp only [Option.isSome_none, Bool.false_eq_true, if_false]
            first | refine wpAny_bind (wpAny_pure ?_) | skip
            refine wpAny_bind (wpAny_rule ?_)
            split
            · exact wpAny_pure (wpAny_pure (hsome j xp hx))
            · exact wpAny_pure ⟨rfl, done ++ [j], some j, rfl, by rw [hd2]; simp, .inr ⟨j, xp, rfl, List.mem_append_right _ List.mem_cons_self, hx⟩⟩
          · have e1 := ke_unique hn hp hx
            subst e1
            rw [hd2, List.nodup_append] at hall
            exact absurd rfl (hall.2.2 _ hi _ List.mem_cons_self)
        · replace hk : ¬ x.1 = _ := fun z => hk (decide_eq_true z)
          have nx := kst_next st hx hk
          refine wpAny_bind (wpAny_rule ?_)
          first | rw [if_neg (by simp)] | skip
          first
            | exact wpAny_pure ⟨rfl, done ++ [j], hit, rfl, by rw [hd2]; simp, nx⟩
            | exact wpAny_bind (wpAny_pure (wpAny_pure ⟨rfl, done ++ [j], hit, rfl, by rw [hd2]; simp, nx⟩))
      · rintro b s' ⟨rfl, done, hit, rfl, hd2, st⟩
        rw [hSt] at st
        rw [List.append_nil] at hd2
        subst hd2
        rcases st with ⟨rfl, h2⟩ | ⟨i, q, rfl, _, h3⟩
        · exact wpAny_pure (hnone fun j p hj => h2 j (hmm hj) p hj)
        · exact wpAny_pure (hsome i q h3))
end
end MP
/-! MiniPy 2: how data lies in the abstract heap. -/
namespace MP
open PySem L2

/-- where the objects of the small heap lie; what is barred (a comprehension's list in the making) -/
structure Ph where
  f : List Addr
  b : List Addr := []
/-- the tables of code objects that are in use -/
class TabC where
  T : List (Addr × Str)
  F : List Addr
  w : World
/-- no table of code objects -/
abbrev NT (o : HO) : Prop := ∀ ps, o ≠ .tbl ps
/-- .. and no such object itself -/
abbrev NX (o : HO) : Prop := (∀ ps, o ≠ .tbl ps) ∧ ∀ c q, o ≠ LamX.CodeO c q
/-- the object at a is o -/
def exO (a : Addr) (o : Obj) : HO := .ext fun h => h.get? a = some o
theorem nx_by {o : HO} (h1 : ∀ ps, o ≠ .tbl ps) (h2 : ∀ f, o ≠ .ext f) : NX o := ⟨h1, fun c q z => h2 _ z⟩
theorem exO_nx {a : Addr} {o : Obj} {es : Array DictEntry} {ep : Nat} (h : o.data = .dict es ep) : NX (exO a o) := by
  refine ⟨fun ps z => (by cases z), fun c q z => ?_⟩
  have hb : (fun h : Heap => h.get? a = some o) = fun h => ∃ (oc : Obj) (vs : Array Value) (t : Tok), h.get? c = some oc ∧ oc.data = .fields vs ∧ vs[1]? = some (.str q t) := by
    unfold exO LamX.CodeO at z
    exact HO.ext.inj z
  have hg : ∀ c, (⟨Array.replicate (a + 1) o, {}⟩ : Heap).get? c = if c < a + 1 then some o else none := fun c => by
    unfold Heap.get?
    by_cases hc : c < a + 1
    · rw [if_pos hc]
      show (match (Array.replicate (a + 1) o)[c]? with | some ⟨_, _, .freed, _⟩ => none | o => o) = _
      rw [Array.getElem?_replicate, if_pos hc]
      obtain ⟨o1, o2, o3, o4⟩ := o
      replace h : o3 = .dict es ep := h
      subst h
      rfl
    · rw [if_neg hc]
      show (match (Array.replicate (a + 1) o)[c]? with | some ⟨_, _, .freed, _⟩ => none | o => o) = _
      rw [Array.getElem?_replicate, if_neg hc]
  have h1 := congrFun hb ⟨Array.replicate (a + 1) o, {}⟩
  have h2 : (⟨Array.replicate (a + 1) o, {}⟩ : Heap).get? a = some o := by rw [hg, if_pos (Nat.lt_succ_self a)]
  have h3 := h1.mp h2
  obtain ⟨oc, vs, t, e1, e2, _⟩ := h3
  rw [hg] at e1
  split at e1
  · cases e1
    rw [h] at e2
    cases e2
  · cases e1
theorem exO_nt {a : Addr} {o : Obj} : NT (exO a o) := fun ps z => by cases z
theorem tabs_put {T : List (Addr × Str)} {H H' : Hp} {a : Addr} {u : HO} (t : LamX.Tabs T H) (h : H a = some u) (n : NX u) (e : ∀ b, b ≠ a → H' b = H b) : LamX.Tabs T H' := by
  intro p hp
  obtain ⟨ps, h1, h2, h3⟩ := t p hp
  have hP : p.1 ≠ a := fun z => by
    rw [z, h] at h1
    exact n.1 ps (Option.some.inj h1)
  refine ⟨ps, by rw [e _ hP]; exact h1, h2, fun pos cv hc => ?_⟩
  obtain ⟨c, e1, e2⟩ := h3 pos cv hc
  have hC : c ≠ a := fun z => by
    rw [z, h] at e2
    exact n.2 _ _ (Option.some.inj e2)
  exact ⟨c, e1, by rw [e _ hC]; exact e2⟩
variable [TabC]
def Out (φ : Ph) (a : Addr) : Prop := a ∉ φ.f ∧ a ∉ φ.b
/-- the script: a list that stays as it is -/
def ScrAt (K : PySem.W.Frag) (φ : Ph) (H : Hp) (a : Addr) (xs : List V) : Prop := (∃ u, H a = some u ∧ (u = .lst xs ∨ ∃ o, u = .frz o (.lst xs)) ∧ Out φ a) ∨
  ∃ (o : Obj) (its : Array Value) (n : Nat), K.lookup a = some o ∧ o.cls = .type "list" ∧ o.dict = none ∧ o.data = .seq its n ∧ its.size ≤ sizeLine ∧ Vals xs its.toList
theorem ScrAt.sq {K : PySem.W.Frag} {φ : Ph} {H : Hp} {a : Addr} {xs : List V} (h : ScrAt K φ H a xs) : SqL K H a xs := by
  rcases h with ⟨u, h1, rfl | ⟨o, rfl⟩, _⟩ | h
  · exact .inl (.inl h1)
  · exact .inl (.inr ⟨_, h1⟩)
  · exact .inr h
theorem ScrAt.mp {K : PySem.W.Frag} {φ φ' : Ph} {H H' : Hp} {a : Addr} {xs : List V} (h : ScrAt K φ H a xs) (k : ∀ b o, H b = some o → NT o → Out φ b → H' b = some o ∧ Out φ' b) : ScrAt K φ' H' a xs := by
  rcases h with ⟨u, h1, hu, h2⟩ | h
  · obtain ⟨k1, k2⟩ := k a u h1 (by rcases hu with rfl | ⟨o, rfl⟩ <;> exact fun _ z => by cases z) h2
    exact .inl ⟨u, k1, hu, k2⟩
  · exact .inr h
/-- the raw dict -/
structure RawD (a : Addr) (o : Obj) (es : Array DictEntry) (ep : Nat) : Prop where
  ex : o.ExactDict
  dat : o.data = .dict es ep
  low : (a == sysModules) = false
  sz : es.size ≤ sizeLine
/-- its entries -/
def Ents : List (D × D) → List (V × V) → List DictEntry → Prop
  | [], [], [] => True
  | p :: l, q :: vs, e :: es => (∃ k, keyOf p.1 = some k ∧ k.depth ≤ 8 ∧ e.hash = k.hash TabC.w) ∧ RelV q.1 e.key ∧ RelV q.2 e.val ∧ Ents l vs es
  | _, _, _ => False
def EntsOk (l : List (D × D)) (vs : List (V × V)) (es : List DictEntry) : Prop := (l.map fun p => keyOf p.1).Nodup ∧ Ents l vs es
section
variable (K : PySem.W.Frag) (φ : Ph) (H : Hp)
mutual
inductive Rep : D → V → Prop
  | non : Rep .non .non
  | bl (b : Bool) : Rep (.bl b) (.bl b)
  | int (i : Int) : Rep (.int i) (.int i)
  | str (x : Str) : Rep (.str x) (.str x)
  | ty (n : String) : Rep (.ty n) (.ty n)
  | fn {n : Nat} {f : Addr} : TabC.F[n]? = some f → Rep (.fn n) (.ref f)
  | tup {a : Addr} {xs : List V} {l : List D} : H a = some (.tup xs) → Out φ a → Reps l xs → Rep (.tup l) (.ref a)
  | tupK {a : Addr} {o : Obj} {its : Array Value} {n : Nat} {xs : List V} {l : List D} : K.lookup a = some o → o.cls = .type "tuple" → o.data = .seq its n → its.size ≤ sizeLine → Vals xs its.toList → Reps l xs → Rep (.tup l) (.ref a)
  | lst {a : Addr} {xs : List V} {l : List D} : H a = some (.lst xs) → Out φ a → Reps l xs → Rep (.lst l) (.ref a)
  | scr {a : Addr} {xs : List V} {l : List D} : ScrAt K φ H a xs → Reps l xs → Rep (.scr l) (.ref a)
  | dct {a : Addr} {o : Obj} {es : Array DictEntry} {ep e : Nat} {l : List (D × D)} {vs : List (V × V)} : H a = some (exO a o) → Out φ a → RawD a o es ep → EntsOk l vs es.toList → RepP l vs → Rep (.dct e l) (.ref a)
  | ref {n : Nat} {a : Addr} : φ.f[n]? = some a → Rep (.ref n) (.ref a)
inductive Reps : List D → List V → Prop
  | nil : Reps [] []
  | cons {d : D} {v : V} {l : List D} {vs : List V} : Rep d v → Reps l vs → Reps (d :: l) (v :: vs)
inductive RepP : List (D × D) → List (V × V) → Prop
  | nil : RepP [] []
  | cons {k d : D} {u v : V} {l : List (D × D)} {vs : List (V × V)} : Rep k u → Rep d v → RepP l vs → RepP ((k, d) :: l) ((u, v) :: vs)
end
/-- the object at a place of the small heap -/
inductive ObjAt : D → Addr → Prop
  | lst {a : Addr} {xs : List V} {l : List D} : H a = some (.lst xs) → Reps K φ H l xs → ObjAt (.lst l) a
  | dct {a : Addr} {o : Obj} {es : Array DictEntry} {ep e : Nat} {l : List (D × D)} {vs : List (V × V)} : H a = some (exO a o) → RawD a o es ep → (e = 0 ∨ e = ep + 1) → EntsOk l vs es.toList → RepP K φ H l vs → ObjAt (.dct e l) a
structure MH (M : List D) : Prop where
  nd : φ.f.Nodup
  len : φ.f.length = M.length
  bar : ∀ b ∈ φ.b, b ∉ φ.f ∧ ∃ o, H b = some o ∧ NX o
  tab : LamX.Tabs TabC.T H
  at_ : ∀ (n : Nat) (a : Addr) (d : D), φ.f[n]? = some a → M[n]? = some d → ObjAt K φ H d a
structure LR (L : Lo) (σ : St) : Prop where
  len : L.length = σ.length
  at_ : ∀ (i : Nat) (d : D), L[i]? = some (some d) → ∃ v, σ[i]? = some (some v) ∧ Rep K φ H d v
end
structure Ext (φ : Ph) (H : Hp) (φ' : Ph) (H' : Hp) : Prop where
  pre : ∃ t, φ.f ++ t = φ'.f
  bar : φ'.b = φ.b
  keep : ∀ b o, H b = some o → NT o → b ∉ φ.f → H' b = some o ∧ b ∉ φ'.f

section
variable {K : PySem.W.Frag} {φ φ1 φ2 : Ph} {H H1 H2 : Hp}
theorem Ext.refl : Ext φ H φ H := ⟨⟨[], by simp⟩, rfl, fun _ _ h _ n => ⟨h, n⟩⟩
theorem Ext.trans (a : Ext φ H φ1 H1) (b : Ext φ1 H1 φ2 H2) : Ext φ H φ2 H2 := by
  obtain ⟨⟨t, e⟩, b1, k⟩ := a
  obtain ⟨⟨t', e'⟩, b2, k'⟩ := b
  refine ⟨⟨t ++ t', by rw [← e', ← e, List.append_assoc]⟩, b2.trans b1, fun x o h nt n => ?_⟩
  obtain ⟨h1, n1⟩ := k x o h nt n
  exact k' x o h1 nt n1
theorem Ext.get (e : Ext φ H φ1 H1) {n : Nat} {a : Addr} (h : φ.f[n]? = some a) : φ1.f[n]? = some a := by
  obtain ⟨⟨t, e⟩, _, _⟩ := e
  rw [← e, List.getElem?_append_left (List.getElem?_eq_some_iff.mp h).1]
  exact h
theorem Ext.out (e : Ext φ H φ1 H1) {a : Addr} {o : HO} (h : H a = some o) (nt : NT o) (n : Out φ a) : H1 a = some o ∧ Out φ1 a :=
  ⟨(e.keep _ _ h nt n.1).1, (e.keep _ _ h nt n.1).2, by rw [e.bar]; exact n.2⟩
mutual
theorem Rep.ext (e : Ext φ H φ1 H1) : ∀ (d : D) (v : V), Rep K φ H d v → Rep K φ1 H1 d v
  | .non, _, h => by cases h; exact .non
  | .bl _, _, h => by cases h; exact .bl _
  | .int _, _, h => by cases h; exact .int _
  | .str _, _, h => by cases h; exact .str _
  | .ty _, _, h => by cases h; exact .ty _
  | .fn _, _, h => by cases h with | fn h => exact .fn h
  | .tup l, _, h => by
    cases h with
    | tup h1 h2 h3 => exact .tup (e.out h1 (fun _ z => by cases z) h2).1 (e.out h1 (fun _ z => by cases z) h2).2 (Reps.ext e _ _ h3)
    | tupK h1 h2 h3 h4 h5 h6 => exact .tupK h1 h2 h3 h4 h5 (Reps.ext e _ _ h6)
  | .lst l, _, h => by
    cases h with
    | lst h1 h2 h3 => exact .lst (e.out h1 (fun _ z => by cases z) h2).1 (e.out h1 (fun _ z => by cases z) h2).2 (Reps.ext e _ _ h3)
  | .scr l, _, h => by
    cases h with
    | scr h1 h3 => exact .scr (h1.mp fun b o h nt n => e.out h nt n) (Reps.ext e _ _ h3)
  | .dct _ l, _, h => by
    cases h with
    | dct h1 h2 h3 h4 h5 => exact .dct (e.out h1 exO_nt h2).1 (e.out h1 exO_nt h2).2 h3 h4 (RepP.ext e _ _ h5)
  | .ref n, _, h => by
    cases h with
    | ref h1 => exact .ref (e.get h1)
theorem Reps.ext (e : Ext φ H φ1 H1) : ∀ (l : List D) (vs : List V), Reps K φ H l vs → Reps K φ1 H1 l vs
  | [], _, h => by cases h; exact .nil
  | d :: l, _, h => by
    cases h with
    | cons h1 h2 => exact .cons (Rep.ext e _ _ h1) (Reps.ext e _ _ h2)
theorem RepP.ext (e : Ext φ H φ1 H1) : ∀ (l : List (D × D)) (vs : List (V × V)), RepP K φ H l vs → RepP K φ1 H1 l vs
  | [], _, h => by cases h; exact .nil
  | (k, d) :: l, _, h => by
    cases h with
    | cons h1 h2 h3 => exact .cons (Rep.ext e _ _ h1) (Rep.ext e _ _ h2) (RepP.ext e _ _ h3)
end
theorem Rep.sqT {l : List D} {v : V} (h : Rep K φ H (.tup l) v) : ∃ a xs, v = .ref a ∧ SqT K H a xs ∧ Reps K φ H l xs := by
  cases h with
  | tup h1 h2 h3 => exact ⟨_, _, rfl, SqT.of h1, h3⟩
  | tupK h1 h2 h3 h4 h5 h6 => exact ⟨_, _, rfl, .inr ⟨_, _, _, h1, h2, h3, h4, h5⟩, h6⟩
theorem Reps.length : ∀ {l : List D} {vs : List V}, Reps K φ H l vs → l.length = vs.length
  | [], _, h => by cases h; rfl
  | d :: l, _, h => by
    cases h with
    | cons h1 h2 => simp [Reps.length h2]
theorem Reps.get : ∀ {l : List D} {vs : List V} {i : Nat} {d : D}, Reps K φ H l vs → l[i]? = some d → ∃ v, vs[i]? = some v ∧ Rep K φ H d v
  | [], _, _, _, _, e => by simp at e
  | d :: l, _, 0, x, h, e => by
    cases h with
    | cons h1 h2 =>
      simp at e
      subst e
      exact ⟨_, rfl, h1⟩
  | d :: l, _, i + 1, x, h, e => by
    cases h with
    | cons h1 h2 =>
      have e' : l[i]? = some x := by simpa using e
      exact Reps.get (i := i) h2 e'
theorem Reps.getV : ∀ {l : List D} {vs : List V} {i : Nat} {v : V}, Reps K φ H l vs → vs[i]? = some v → ∃ d, l[i]? = some d ∧ Rep K φ H d v
  | [], _, _, _, h, e => by cases h; simp at e
  | d :: l, _, 0, x, h, e => by
    cases h with
    | cons h1 h2 =>
      simp at e
      subst e
      exact ⟨_, rfl, h1⟩
  | d :: l, _, i + 1, x, h, e => by
    cases h with
    | @cons _ _ _ ws h1 h2 =>
      have e' : ws[i]? = some x := by simpa using e
      exact Reps.getV (i := i) h2 e'
theorem Reps.append : ∀ {l m : List D} {vs ws : List V}, Reps K φ H l vs → Reps K φ H m ws → Reps K φ H (l ++ m) (vs ++ ws)
  | [], _, _, _, h, h' => by cases h; exact h'
  | d :: l, _, _, _, h, h' => by
    cases h with
    | cons h1 h2 => exact .cons h1 (Reps.append h2 h')
theorem Reps.take : ∀ (n : Nat) {l : List D} {vs : List V}, Reps K φ H l vs → Reps K φ H (l.take n) (vs.take n)
  | 0, _, _, _ => .nil
  | n + 1, [], _, h => by cases h; exact .nil
  | n + 1, d :: l, _, h => by
    cases h with
    | cons h1 h2 => exact .cons h1 (Reps.take n h2)
theorem Reps.drop : ∀ (n : Nat) {l : List D} {vs : List V}, Reps K φ H l vs → Reps K φ H (l.drop n) (vs.drop n)
  | 0, _, _, h => h
  | n + 1, [], _, h => by cases h; exact .nil
  | n + 1, d :: l, _, h => by
    cases h with
    | cons h1 h2 => exact Reps.drop n h2
theorem Reps.set {d : D} {v : V} (r : Rep K φ H d v) : ∀ (n : Nat) {l : List D} {vs : List V}, Reps K φ H l vs → Reps K φ H (l.set n d) (vs.set n v)
  | _, [], _, h => by cases h; exact .nil
  | 0, _ :: l, _, h => by
    cases h with
    | cons h1 h2 => exact .cons r h2
  | n + 1, _ :: l, _, h => by
    cases h with
    | cons h1 h2 => exact .cons h1 (Reps.set r n h2)
theorem Reps.flat {l : List D} {vs : List V} (h : Reps K φ H l vs) : ∀ k : Nat, Reps K φ H (List.replicate k l).flatten (List.replicate k vs).flatten
  | 0 => .nil
  | k + 1 => by
    rw [List.replicate_succ, List.replicate_succ, List.flatten_cons, List.flatten_cons]
    exact h.append (Reps.flat h k)
theorem Reps.ints : ∀ {l : List D} {vs : List V} {ns : List Int}, Reps K φ H l vs → allInts l = some ns → vs = ns.map V.int ∧ l = ns.map D.int
  | [], _, _, h, e => by
    cases h
    simp [allInts] at e
    subst e
    exact ⟨rfl, rfl⟩
  | d :: l, _, ns, h, e => by
    cases h with
    | cons h1 h2 =>
      cases d <;> simp [allInts] at e
      obtain ⟨r, e1, rfl⟩ := e
      cases h1
      obtain ⟨q1, q2⟩ := Reps.ints h2 e1
      rw [q1, q2]
      exact ⟨rfl, rfl⟩
theorem Reps.bls : ∀ {l : List D} {vs : List V} {ns : List Bool}, Reps K φ H l vs → allBls l = some ns → vs = ns.map V.bl ∧ l = ns.map D.bl
  | [], _, _, h, e => by
    cases h
    simp [allBls] at e
    subst e
    exact ⟨rfl, rfl⟩
  | d :: l, _, ns, h, e => by
    cases h with
    | cons h1 h2 =>
      cases d <;> simp [allBls] at e
      obtain ⟨r, e1, rfl⟩ := e
      cases h1
      obtain ⟨q1, q2⟩ := Reps.bls h2 e1
      rw [q1, q2]
      exact ⟨rfl, rfl⟩
theorem reps_ints : ∀ ns : List Int, Reps K φ H (ns.map D.int) (ns.map V.int)
  | [] => .nil
  | i :: r => .cons (.int i) (reps_ints r)

/-! ### the small heap -/
theorem ObjAt.ext {d : D} {a : Addr} (h : ObjAt K φ H d a) (e : Ext φ H φ1 H1) (ha : H1 a = H a) : ObjAt K φ1 H1 d a := by
  cases h with
  | lst h1 h2 => exact .lst (ha.trans h1) (Reps.ext e _ _ h2)
  | dct h1 h2 h3 h4 h5 => exact .dct (ha.trans h1) h2 h3 h4 (RepP.ext e _ _ h5)
theorem ObjAt.there {d : D} {a : Addr} (h : ObjAt K φ H d a) : ∃ o, H a = some o ∧ NX o := by
  cases h with
  | lst h1 _ => exact ⟨_, h1, nx_by (fun _ z => (by cases z)) (fun _ z => (by cases z))⟩
  | dct h1 h2 _ _ _ => exact ⟨_, h1, exO_nx h2.dat⟩
theorem MH.there {M : List D} (m : MH K φ H M) {a : Addr} (h : a ∈ φ.f) : ∃ o, H a = some o ∧ NX o := by
  obtain ⟨n, hn, e⟩ := List.mem_iff_getElem.mp h
  have hn' : n < M.length := by rw [← m.len]; exact hn
  exact (m.at_ n a M[n] (by rw [List.getElem?_eq_getElem hn, e]) (List.getElem?_eq_getElem hn')).there
/-- a frozen new object -/
theorem Ext.new {p : Addr} {o : HO} (hp : H p = none) : Ext φ H φ (upd H p o) :=
  ⟨⟨[], by simp⟩, rfl, fun b u h _ n => ⟨by rw [upd_ne (ne_of_none h hp)]; exact h, n⟩⟩
theorem MH.new {M : List D} {p : Addr} {o : HO} (m : MH K φ H M) (hp : H p = none) : MH K φ (upd H p o) M :=
  ⟨m.nd, m.len, fun b hb => ⟨(m.bar b hb).1, let ⟨u, hu, hx⟩ := (m.bar b hb).2; ⟨u, by rw [upd_ne (ne_of_none hu hp)]; exact hu, hx⟩⟩, m.tab.ext fun b u hu => by rw [upd_ne (ne_of_none hu hp)]; exact hu, fun n a d h1 h2 => (m.at_ n a d h1 h2).ext (Ext.new hp) (by
    obtain ⟨u, hu, _⟩ := (m.at_ n a d h1 h2).there
    rw [upd_ne (ne_of_none hu hp)])⟩
theorem MH.notin {M : List D} {p : Addr} (m : MH K φ H M) (hp : H p = none) : Out φ p := by
  refine ⟨fun h => ?_, fun h => ?_⟩
  · obtain ⟨u, hu, _⟩ := m.there h
    rw [hp] at hu
    cases hu
  · obtain ⟨_, u, hu, _⟩ := m.bar p h
    rw [hp] at hu
    cases hu
/-- one more object of the small heap -/
abbrev Ph.more (φ : Ph) (p : Addr) : Ph := { φ with f := φ.f ++ [p] }
/-- a new object of the small heap -/
theorem Ext.alloc {p : Addr} {o : HO} (hp : H p = none) : Ext φ H (φ.more p) (upd H p o) :=
  ⟨⟨[p], rfl⟩, rfl, fun b u h _ n => by
    have hb := ne_of_none h hp
    exact ⟨by rw [upd_ne hb]; exact h, by simp [n, hb]⟩⟩
theorem MH.alloc {M : List D} {p : Addr} {o : HO} {d : D} (m : MH K φ H M) (hp : H p = none) (ob : ObjAt K (φ.more p) (upd H p o) d p) : MH K (φ.more p) (upd H p o) (M ++ [d]) := by
  refine ⟨?_, by simp [m.len], fun b hb => ?_, m.tab.ext fun b u hu => by rw [upd_ne (ne_of_none hu hp)]; exact hu, fun n a e h1 h2 => ?_⟩
  · rw [List.nodup_append]
    refine ⟨m.nd, by simp, fun a ha b hb => ?_⟩
    simp at hb
    subst hb
    intro z
    subst z
    exact (m.notin hp).1 ha
  · obtain ⟨n, u, hu, hx⟩ := m.bar b hb
    have hbp := ne_of_none hu hp
    exact ⟨by simp [n, hbp], u, by rw [upd_ne hbp]; exact hu, hx⟩
  · by_cases hn : n < φ.f.length
    · rw [List.getElem?_append_left hn] at h1
      rw [List.getElem?_append_left (by rw [← m.len]; exact hn)] at h2
      refine (m.at_ n a e h1 h2).ext (Ext.alloc hp) ?_
      obtain ⟨u, hu, _⟩ := (m.at_ n a e h1 h2).there
      rw [upd_ne (ne_of_none hu hp)]
    · rw [List.getElem?_append_right (by omega)] at h1
      rw [List.getElem?_append_right (by rw [← m.len]; omega)] at h2
      have e0 : n - φ.f.length = 0 := by
        have := (List.getElem?_eq_some_iff.mp h1).1
        simp at this
        omega
      rw [e0] at h1
      rw [← m.len, e0] at h2
      simp at h1 h2
      subst h1 h2
      exact ob
/-- an object of the small heap is changed -/
theorem Ext.set {M : List D} {n : Nat} {a : Addr} {o : HO} (h : φ.f[n]? = some a) : Ext φ H φ (upd H a o) :=
  ⟨⟨[], by simp⟩, rfl, fun b u hb _ nb => ⟨by rw [upd_ne (fun z => nb (by rw [z]; exact List.mem_of_getElem? h))]; exact hb, nb⟩⟩
theorem nd_ix' {α : Type} {l : List α} (h : l.Nodup) {i j : Nat} {a : α} (h1 : l[i]? = some a) (h2 : l[j]? = some a) : i = j := by
  obtain ⟨a1, b1⟩ := List.getElem?_eq_some_iff.mp h1
  obtain ⟨a2, b2⟩ := List.getElem?_eq_some_iff.mp h2
  exact (List.getElem_inj h).mp (b1.trans b2.symm)
theorem MH.set {M : List D} {n : Nat} {a : Addr} {o : HO} {d : D} (m : MH K φ H M) (h : φ.f[n]? = some a) (ob : ObjAt K φ (upd H a o) d a) : MH K φ (upd H a o) (M.set n d) := by
  refine ⟨m.nd, by simp [m.len], fun b hb => ?_, ?_, fun k b e h1 h2 => ?_⟩
  · obtain ⟨n, u, hu, hx⟩ := m.bar b hb
    exact ⟨n, u, by rw [upd_ne (fun z => n (by rw [z]; exact List.mem_of_getElem? h))]; exact hu, hx⟩
  · obtain ⟨u, hu, hx⟩ := m.there (List.mem_of_getElem? h)
    exact tabs_put m.tab hu hx fun b hb => upd_ne hb
  by_cases hk : n = k
  · subst hk
    rw [h] at h1
    cases h1
    rw [List.getElem?_set_self (by rw [← m.len]; exact (List.getElem?_eq_some_iff.mp h).1)] at h2
    cases h2
    exact ob
  · rw [List.getElem?_set_ne hk] at h2
    refine (m.at_ k b e h1 h2).ext (Ext.set (M := M) h) ?_
    refine upd_ne fun z => hk ?_
    subst z
    exact nd_ix' m.nd h h1

/-! ### local names -/
theorem LR.ext {L : Lo} {σ : St} (l : LR K φ H L σ) (e : Ext φ H φ1 H1) : LR K φ1 H1 L σ :=
  ⟨l.len, fun i d h => let ⟨v, h1, h2⟩ := l.at_ i d h; ⟨v, h1, Rep.ext e _ _ h2⟩⟩
theorem LR.set {L : Lo} {σ : St} {d : D} {v : V} (l : LR K φ H L σ) (i : Nat) (r : Rep K φ H d v) : LR K φ H (L.set i (some d)) (σ.set i (some v)) := by
  refine ⟨by simp [l.len], fun j e h => ?_⟩
  by_cases hj : i = j
  · subst hj
    by_cases hi : i < L.length
    · rw [List.getElem?_set_self hi] at h
      cases h
      exact ⟨v, by rw [List.getElem?_set_self (by rw [← l.len]; exact hi)], r⟩
    · rw [List.getElem?_eq_none (by simpa using hi)] at h
      cases h
  · rw [List.getElem?_set_ne hj] at h
    obtain ⟨w, h1, h2⟩ := l.at_ j e h
    exact ⟨w, by rw [List.getElem?_set_ne hj]; exact h1, h2⟩
theorem LR.wipe {L : Lo} {σ : St} (l : LR K φ H L σ) : ∀ vs : List Nat, LR K φ H (MP.wipe L vs) (L2.wipe σ vs)
  | [] => l
  | v :: vs => by
    have ih := LR.wipe l vs
    unfold MP.wipe L2.wipe
    refine ⟨by simp [ih.len], fun j e h => ?_⟩
    by_cases hj : v = j
    · subst hj
      by_cases hi : v < (MP.wipe L vs).length
      · rw [List.getElem?_set_self hi] at h
        cases h
      · rw [List.getElem?_eq_none (by simpa using hi)] at h
        cases h
    · rw [List.getElem?_set_ne hj] at h
      obtain ⟨w, h1, h2⟩ := ih.at_ j e h
      exact ⟨w, by rw [List.getElem?_set_ne hj]; exact h1, h2⟩
end

/-! ### what a step leaves -/
section
/-- an exception as the layer sees it: an object of the own class c, without a value of its own, or with one at a name -/
def XRep (K : PySem.W.Frag) (φ : Ph) (H : Hp) (c : Str) (e : D) (cls : Value) (dd : Option Addr) : Prop :=
  ∃ C, PySem.W.nsIn K mainGlobals c = some (some (.ref C)) ∧ cls = .ref C ∧ ((e = .non ∧ dd = none) ∨ ∃ (n : Str) (d : D) (dx : Addr) (v : V), e = .tup [.str n, d] ∧ dd = some dx ∧ H dx = some (.xd [(n, v)]) ∧ Out φ dx ∧ Rep K φ H d v)
def PR (K : PySem.W.Frag) (W : WX) (σ : St) {α : Type} (φ : Ph) (H : Hp) (r : R α) (G : α → List D → Ph → Hp → Prop) : Prop := match r with
  | .ok a M' => ∀ φ' H', Ext φ H φ' H' → MH K φ' H' M' → G a M' φ' H'
  | .exc c e M' => ∀ φ' H' cls dd, Ext φ H φ' H' → MH K φ' H' M' → XRep K φ' H' c e cls dd → W cls dd σ H'
  | .bad => False
def tE (K : PySem.W.Frag) (W : WX) (m : Lo → List D → R D) : TE := fun σ H Q => ∃ L φ M, LR K φ H L σ ∧ MH K φ H M ∧ PR K W σ φ H (m L M) fun d _ φ' H' => ∀ v, Rep K φ' H' d v → Q v H'
def tEs (K : PySem.W.Frag) (W : WX) (m : Lo → List D → R (List D)) : TA := fun σ H Q => ∃ L φ M, LR K φ H L σ ∧ MH K φ H M ∧ PR K W σ φ H (m L M) fun d _ φ' H' => ∀ v, Reps K φ' H' d v → Q v H'
def tT (K : PySem.W.Frag) (W : WX) (m : Lo → List D → R D) : TT := fun σ H Q => ∃ L φ M, LR K φ H L σ ∧ MH K φ H M ∧ PR K W σ φ H (m L M) fun d M' φ' H' => ∃ k, truth M' d = some k ∧ Q k H'
end
section
variable {K : PySem.W.Frag} {W : WX} {σ : St} {φ φ1 φ2 : Ph} {H H1 H2 : Hp} {α β : Type}
theorem PR.mono {r : R α} {G G' : α → List D → Ph → Hp → Prop} (p : PR K W σ φ H r G) (h : ∀ a M' φ' H', Ext φ H φ' H' → MH K φ' H' M' → G a M' φ' H' → G' a M' φ' H') : PR K W σ φ H r G' := by
  cases r with
  | ok a M => exact fun φ' H' e m => h a M φ' H' e m (p φ' H' e m)
  | exc c e M => exact p
  | bad => exact p
/-- the state moves on -/
theorem PR.ext {r : R α} {G : α → List D → Ph → Hp → Prop} (p : PR K W σ φ H r G) (e : Ext φ H φ1 H1) : PR K W σ φ1 H1 r G := by
  cases r with
  | ok a M => exact fun φ' H' e' m => p φ' H' (e.trans e') m
  | exc c x M => exact fun φ' H' cls dd e' m => p φ' H' cls dd (e.trans e') m
  | bad => exact p
theorem PR.bind {r : R α} {f : α → List D → R β} {G : β → List D → Ph → Hp → Prop} (p : PR K W σ φ H (r.bind f) G) :
    PR K W σ φ H r fun a M1 φ1 H1 => PR K W σ φ1 H1 (f a M1) G := by
  cases r with
  | ok a M => exact fun φ' H' e m => PR.ext (show PR K W σ φ H (f a M) G from p) e
  | exc c e M => exact p
  | bad => exact p
/-- the end is here -/
theorem PR.here {a : α} {M : List D} {G : α → List D → Ph → Hp → Prop} (p : PR K W σ φ H (.ok a M) G) (m : MH K φ H M) : G a M φ H := p φ H Ext.refl m
theorem tE_use {L : Lo} {M : List D} {m : Lo → List D → R D} {Q : VK} {G : D → List D → Ph → Hp → Prop} (lr : LR K φ H L σ) (mh : MH K φ H M) (p : PR K W σ φ H (m L M) G)
    (h : ∀ d M' φ' H' v, Ext φ H φ' H' → MH K φ' H' M' → G d M' φ' H' → Rep K φ' H' d v → Q v H') : tE K W m σ H Q :=
  ⟨L, φ, M, lr, mh, p.mono fun d M' φ' H' e mh' g v r => h d M' φ' H' v e mh' g r⟩
theorem tEs_use {L : Lo} {M : List D} {m : Lo → List D → R (List D)} {Q : List V → Hp → Prop} {G : List D → List D → Ph → Hp → Prop} (lr : LR K φ H L σ) (mh : MH K φ H M) (p : PR K W σ φ H (m L M) G)
    (h : ∀ d M' φ' H' v, Ext φ H φ' H' → MH K φ' H' M' → G d M' φ' H' → Reps K φ' H' d v → Q v H') : tEs K W m σ H Q :=
  ⟨L, φ, M, lr, mh, p.mono fun d M' φ' H' e mh' g v r => h d M' φ' H' v e mh' g r⟩
theorem tT_use {L : Lo} {M : List D} {m : Lo → List D → R D} {Q : Bool → Hp → Prop} {G : D → List D → Ph → Hp → Prop} (lr : LR K φ H L σ) (mh : MH K φ H M) (p : PR K W σ φ H (m L M) G)
    (h : ∀ d M' φ' H', Ext φ H φ' H' → MH K φ' H' M' → G d M' φ' H' → ∃ k, truth M' d = some k ∧ Q k H') : tT K W m σ H Q :=
  ⟨L, φ, M, lr, mh, p.mono fun d M' φ' H' e mh' g => h d M' φ' H' e mh' g⟩
end
end MP
/-! MiniPy 2b: t * 1 is t. -/
namespace MP
open PySem PySem.Spec PyProof.Rows L2
theorem tuple_mulW1 (l : Addr) (items : Array Value) (n : Nat) (dd : Option Addr) (sl : Array (Option Value)) (u : Tok) :
    Meets (Builtin.«tuple.__mul__» ⟨[.ref l, .int 1 u], []⟩) (fun _ R s => s.heap.get? l = some { cls := .type "tuple", dict := dd, data := .seq items n, slots := sl } ∧ R (.ok (.ret (Value.ref l))) s) :=
  .of_wp fun prog w A R s h => by
    obtain ⟨hp, g, d, tk, os⟩ := s
    obtain ⟨hl, h⟩ := h
    have f1 := AutoSeq1.idx_int
    wp_walk using wpAny_loadPart' hl
    repeat (first
      | (refine wpAny_ite_false (decide_eq_false (by decide)) ?_; wp_walk using wpAny_loadPart' hl)
      | (refine wpAny_ite_true (decide_eq_true (by rw [show ((1 : Int) == 1) = true from rfl, Bool.or_true])) ?_; wp_walk using wpAny_loadPart' hl))
    exact ⟨_, rfl, h⟩
section
variable {X : Cx}
def rRepT1 (K : PySem.W.Frag) : R2 := fun x y H Q => ∃ l xs, x = .ref l ∧ y = .int 1 ∧ SqT K H l xs ∧ Q (.ref l) H
theorem op_repT1 : OpR X (binaryOp .Mult) (rRepT1 X.K) := by
  intro pins s σ H x y v u Q I rx ry h
  obtain ⟨l, xs, rfl, rfl, hT, q⟩ := h
  cases rx
  obtain ⟨t, rfl⟩ := ry
  obtain ⟨its, r, ⟨⟨cls, dd, data, sl⟩, ho, hc, n, hd⟩, hs⟩ := I.tuple hT
  simp only at hc hd
  subst hc hd
  refine wpAny_binaryOp_repeat_ref (T := "tuple") (U := "int") (by decide) ⟨_, ho, rfl⟩ (fun s' => typeIs_int s' 1 t) noFill_tuple_mul F.fills_int_mul F.slot_int_rmul repeat_tuple F.slot_int_index.lookup
    (call_meets F.slot_int_rmul (typeIs_int s 1 t) F.entry_int_rmul (F.args_int_rmul_2 _ _) (int_rmul_tuple 1 t l its.toArray n dd sl)
      ⟨ho, rfl, ⟨_, ho, rfl⟩, call_meets F.slot_tuple_mul ⟨_, ho, rfl⟩ F.entry_tuple_mul (F.args_tuple_mul_2 _ _) (tuple_mulW1 l its.toArray n dd sl t) ⟨ho, ?_⟩⟩)
  exact ⟨.ref l, H, I, rfl, q⟩
end
end MP
/-! MiniPy 3: operations by values. -/
namespace MP
open PySem PySem.Spec PyProof.Rows L2
variable [TabC]

section
variable {K : PySem.W.Frag} {φ φ1 : Ph} {H H1 : Hp} {M : List D}
/-! ### what a value is when its content is known -/
theorem lst_at {x : D} {v : V} {l : List D} (m : MH K φ H M) (r : Rep K φ H x v) (h : cont M x = some (.lst l)) : ∃ a xs, v = .ref a ∧ H a = some (.lst xs) ∧ Reps K φ H l xs := by
  cases r with
  | ref h1 =>
    cases m.at_ _ _ _ h1 h with
    | lst h2 h3 => exact ⟨_, _, rfl, h2, h3⟩
  | lst h1 h2 h3 =>
    simp [cont] at h
    subst h
    exact ⟨_, _, rfl, h1, h3⟩
  | _ => simp [cont] at h
theorem tup_at {x : D} {v : V} {l : List D} (m : MH K φ H M) (r : Rep K φ H x v) (h : cont M x = some (.tup l)) : x = .tup l := by
  cases r with
  | ref h1 => cases m.at_ _ _ _ h1 h
  | tup h1 h2 h3 => simp [cont] at h; subst h; rfl
  | tupK h1 h2 h3 h4 h5 h6 => simp [cont] at h; subst h; rfl
  | _ => simp [cont] at h
theorem scr_at {x : D} {v : V} {l : List D} (m : MH K φ H M) (r : Rep K φ H x v) (h : cont M x = some (.scr l)) : x = .scr l := by
  cases r with
  | ref h1 => cases m.at_ _ _ _ h1 h
  | scr h1 h3 => simp [cont] at h; subst h; rfl
  | _ => simp [cont] at h
theorem dct_at {x : D} {v : V} {e : Nat} {l : List (D × D)} (m : MH K φ H M) (r : Rep K φ H x v) (h : cont M x = some (.dct e l)) :
    ∃ a o es ep vs, v = .ref a ∧ H a = some (exO a o) ∧ RawD a o es ep ∧ EntsOk l vs es.toList ∧ RepP K φ H l vs := by
  cases r with
  | ref h1 =>
    cases m.at_ _ _ _ h1 h with
    | dct h2 h3 _ h5 h6 => exact ⟨_, _, _, _, _, rfl, h2, h3, h5, h6⟩
  | dct h1 h2 h3 h5 h6 =>
    simp [cont] at h
    obtain ⟨rfl, rfl⟩ := h
    exact ⟨_, _, _, _, _, rfl, h1, h3, h5, h6⟩
  | _ => simp [cont] at h
/-- the others are themselves -/
theorem scal_at {x d : D} {v : V} (m : MH K φ H M) (r : Rep K φ H x v) (h : cont M x = some d) (hd : ∀ n, x = .ref n → ∀ l, d ≠ .lst l ∧ ∀ e l, d ≠ .dct e l) : x = d := by
  cases r with
  | @ref n a h1 =>
    cases m.at_ _ _ _ h1 h with
    | lst _ _ => exact absurd rfl ((hd n rfl _).1)
    | dct _ _ _ _ _ => exact absurd rfl ((hd n rfl []).2 _ _)
  | _ => simp [cont] at h; exact h

/-! ### readings by values -/
/-- a pure operation of two values -/
def rO (K : PySem.W.Frag) (f : List D → D → D → Option D) : R2 := fun x y H Q => ∃ φ M a b d, MH K φ H M ∧ Rep K φ H a x ∧ Rep K φ H b y ∧ f M a b = some d ∧
  ∀ φ' H' v, Ext φ H φ' H' → MH K φ' H' M → Rep K φ' H' d v → Q v H'
def rC (K : PySem.W.Frag) (f : List D → List D → Option D) : List V → Hp → VK → Prop := fun xs H Q => ∃ φ M as d, MH K φ H M ∧ Reps K φ H as xs ∧ f M as = some d ∧
  ∀ φ' H' v, Ext φ H φ' H' → MH K φ' H' M → Rep K φ' H' d v → Q v H'
def rMt (K : PySem.W.Frag) (f : List D → D → List D → Option (D × List D)) : V → List V → Hp → VK → Prop := fun x xs H Q => ∃ φ M a as d M', MH K φ H M ∧ Rep K φ H a x ∧ Reps K φ H as xs ∧ f M a as = some (d, M') ∧
  ∀ φ' H' v, Ext φ H φ' H' → MH K φ' H' M' → Rep K φ' H' d v → Q v H'
/-- the ends -/
theorem end_same {d : D} {v : V} {Q : VK} (m : MH K φ H M) (r : Rep K φ H d v) (q : ∀ φ' H' v, Ext φ H φ' H' → MH K φ' H' M → Rep K φ' H' d v → Q v H') : Q v H := q _ _ _ Ext.refl m r
theorem end_tup {l : List D} {xs : List V} {p : Addr} {Q : VK} (m : MH K φ H M) (hp : H p = none) (r : Reps K φ H l xs) (q : ∀ φ' H' v, Ext φ H φ' H' → MH K φ' H' M → Rep K φ' H' (.tup l) v → Q v H') : Q (.ref p) (upd H p (.tup xs)) :=
  q _ _ _ (Ext.new hp) (m.new hp) (.tup upd_same (m.notin hp) (Reps.ext (Ext.new hp) _ _ r))
theorem end_lst {l : List D} {xs : List V} {p : Addr} {Q : VK} (m : MH K φ H M) (hp : H p = none) (r : Reps K φ H l xs) (q : ∀ φ' H' v, Ext φ H φ' H' → MH K φ' H' M → Rep K φ' H' (.lst l) v → Q v H') : Q (.ref p) (upd H p (.lst xs)) :=
  q _ _ _ (Ext.new hp) (m.new hp) (.lst upd_same (m.notin hp) (Reps.ext (Ext.new hp) _ _ r))
end

/-! ### arithmetic -/
def opOf : Bop → Operator
  | .add => .Add | .sub => .Sub | .mul => .Mult | .fdiv => .FloorDiv | .mod => .Mod | .pow => .Pow
section
variable {X : Cx}
theorem okMul_c {i j : Int} (h : okMul i j = true) : CMul i j := by
  unfold okMul at h
  simp only [Bool.or_eq_true, Bool.and_eq_true, decide_eq_true_eq] at h
  exact h
/-- ints, any operator -/
theorem op_int (o : Bop) : OpR X (binaryOp (opOf o)) (fun x y H Q => ∃ i j k, x = .int i ∧ y = .int j ∧ intS o i j = some k ∧ Q (.int k) H) := by
  intro pins s σ H x y v u Q I rx ry h
  obtain ⟨i, j, k, rfl, rfl, e, q⟩ := h
  cases o with
  | add => cases e; exact op_add pins s σ H _ _ v u Q I rx ry ⟨i, j, rfl, rfl, q⟩
  | sub => cases e; exact op_sub pins s σ H _ _ v u Q I rx ry ⟨i, j, rfl, rfl, q⟩
  | mul =>
    simp only [intS] at e
    split at e
    · rename_i hc
      cases e
      exact op_mul pins s σ H _ _ v u Q I rx ry ⟨i, j, rfl, rfl, okMul_c hc, q⟩
    · cases e
  | fdiv =>
    simp only [intS] at e
    split at e
    · rename_i hc
      cases e
      exact op_fdivN pins s σ H _ _ v u Q I rx ry ⟨i, j, rfl, rfl, hc, q⟩
    · cases e
  | mod =>
    simp only [intS] at e
    split at e
    · rename_i hc
      cases e
      exact op_modN pins s σ H _ _ v u Q I rx ry ⟨i, j, rfl, rfl, hc, q⟩
    · cases e
  | pow =>
    simp only [intS] at e
    split at e
    · rename_i hc
      cases e
      obtain ⟨t, rfl⟩ := rx
      obtain ⟨t', rfl⟩ := ry
      exact pow_int hc.1 hc.2 ⟨.int _, H, I.tok _, ⟨_, rfl⟩, q⟩
    · cases e
theorem iop_int (o : Bop) (ho : o ≠ .pow) : OpR X (inplaceOp (opOf o)) (fun x y H Q => ∃ i j k, x = .int i ∧ y = .int j ∧ intS o i j = some k ∧ Q (.int k) H) := by
  intro pins s σ H x y v u Q I rx ry h
  obtain ⟨i, j, k, rfl, rfl, e, q⟩ := h
  cases o with
  | add => cases e; exact iop_add pins s σ H _ _ v u Q I rx ry ⟨i, j, rfl, rfl, q⟩
  | sub => cases e; exact iop_sub pins s σ H _ _ v u Q I rx ry ⟨i, j, rfl, rfl, q⟩
  | mul =>
    simp only [intS] at e
    split at e
    · rename_i hc
      cases e
      exact iop_mul pins s σ H _ _ v u Q I rx ry ⟨i, j, rfl, rfl, okMul_c hc, q⟩
    · cases e
  | fdiv =>
    simp only [intS] at e
    split at e
    · rename_i hc
      cases e
      obtain ⟨t, rfl⟩ := rx
      obtain ⟨t', rfl⟩ := ry
      exact ifloordiv_int hc.1 ⟨.int _, H, I.tok _, ⟨_, rfl⟩, q⟩ (.inl (PyProof.noPylong_small hc.2))
    · cases e
  | mod =>
    simp only [intS] at e
    split at e
    · rename_i hc
      cases e
      obtain ⟨t, rfl⟩ := rx
      obtain ⟨t', rfl⟩ := ry
      exact imod_int hc ⟨.int _, H, I.tok _, ⟨_, rfl⟩, q⟩
    · cases e
  | pow => exact absurd rfl ho

theorem or_bin (o : Bop) : OpR X (binaryOp (opOf o)) (rO X.K fun M x y => binS M o x y) := by
  intro pins s σ H x y v u Q I rx ry h
  obtain ⟨φ, M, a, b, d, m, ra, rb, e, q⟩ := h
  replace e : binS M o a b = some d := e
  unfold binS at e
  split at e
  · rename_i i j
    cases ra
    cases rb
    simp only [Option.map_eq_some_iff] at e
    obtain ⟨k, e, rfl⟩ := e
    exact op_int o pins s σ H _ _ v u Q I rx ry ⟨i, j, k, rfl, rfl, e, end_same m (.int k) q⟩
  · rename_i l1 l2
    split at e
    · rename_i hc
      obtain ⟨rfl, hz⟩ := hc
      cases e
      obtain ⟨p1, xs1, rfl, s1, r1⟩ := ra.sqT
      obtain ⟨p2, xs2, rfl, s2, r2⟩ := rb.sqT
      rw [r1.length, r2.length] at hz
      refine op_catA pins s σ H _ _ v u Q I rx ry ⟨p1, p2, xs1, xs2, rfl, rfl, s1, s2, hz, ?_⟩
      have k1 : xs1 = [] ↔ l1 = [] := by
        rw [← List.length_eq_zero_iff, ← r1.length, List.length_eq_zero_iff]
      have k2 : xs2 = [] ↔ l2 = [] := by
        rw [← List.length_eq_zero_iff, ← r2.length, List.length_eq_zero_iff]
      refine ⟨fun z => end_same m (d := .tup (l1 ++ l2)) (by rw [k1.mp z]; exact rb) q, fun _ z => end_same m (d := .tup (l1 ++ l2)) (by rw [k2.mp z, List.append_nil]; exact ra) q, fun _ _ p hp => end_tup m hp (r1.append r2) q⟩
    · cases e
  · rename_i l1 k
    split at e
    · rename_i hc
      obtain ⟨rfl, h1, h2, h3, h4⟩ := hc
      cases e
      cases rb
      obtain ⟨p1, xs1, rfl, s1, r1⟩ := ra.sqT
      by_cases hk : k = 1
      · subst hk
        refine op_repT1 pins s σ H _ _ v u Q I rx ry ⟨p1, xs1, rfl, rfl, s1, end_same m (d := .tup (List.replicate (1 : Int).toNat l1).flatten) ?_ q⟩
        have : (List.replicate (1 : Int).toNat l1).flatten = l1 := by
          show (List.replicate 1 l1).flatten = l1
          simp
        rw [this]
        exact ra
      replace h2 : 2 ≤ k := by omega
      refine op_repT pins s σ H _ _ v u Q I rx ry ⟨p1, k, xs1, rfl, rfl, s1, ?_, h2, h3, by rw [← r1.length]; exact h4, fun p hp => end_tup m hp (r1.flat _) q⟩
      rintro rfl
      cases r1
      exact h1 rfl
    · cases e
  · split at e
    · rename_i l1 l2 c1 c2
      split at e
      · rename_i hc
        obtain ⟨rfl, hz⟩ := hc
        cases e
        obtain ⟨p1, xs1, rfl, s1, r1⟩ := lst_at m ra c1
        obtain ⟨p2, xs2, rfl, s2, r2⟩ := lst_at m rb c2
        rw [r1.length, r2.length] at hz
        exact op_cat pins s σ H _ _ v u Q I rx ry ⟨p1, p2, xs1, xs2, rfl, rfl, s1, s2, hz, fun p hp => end_lst m hp (r1.append r2) q⟩
      · cases e
    · cases e
end
end MP
/-! MiniPy D1: dicts: the raw steps. -/
namespace MP
open PySem PySem.Spec PyProof.Rows L2
section
variable {prog : Program} {w : World} {A : Around} {E : Value → Shared → Prop} {s : Shared} {d : Addr} {o : Obj} {es : Array DictEntry} {ep : Nat} {xs : List KE3} {k : NestedKey} {key : Value}
theorem wp_dictSet {v : Value} {Q : Unit → Shared → Prop} (hu : A.units + 8 < cLine) (hkey : KOk s.heap k key) (ho : s.heap.get? d = some o) (hc : o.ExactDict) (hd : o.data = .dict es ep)
    (he : es.toList = xs.map (entV w)) (his : ∀ x ∈ xs, KOk s.heap x.1 x.2.1) (hn : (xs.map (·.1)).Nodup) (hsz : es.size ≤ sizeLine)
    (h1 : ∀ (j : Nat) (p : Value × Value), xs[j]? = some (k, p) → ∀ h' o', h'.get? d = some o' → o'.ExactDict → o'.data = .dict (es.modify j fun e => { e with val := v }) ep → Heap.SameBut d s.heap h' → Q () { s with heap := h', toks := s.toks + k.draws })
    (h2 : (∀ (j : Nat) (p : Value × Value), xs[j]? ≠ some (k, p)) → ∀ h' o', h'.get? d = some o' → o'.ExactDict → o'.data = .dict (es.push ⟨k.hash w, key, v⟩) (ep + 1) → Heap.SameBut d s.heap h' → Q () { s with heap := h', toks := s.toks + k.draws }) :
    wpAny (model prog w) A (dictSet d key v) Q E s := by
  unfold dictSet
  try with_reducible refine wpAny_holding ?_
  refine wpAny_bind (pyHash_key k key _ s _ hkey.is (by have := hkey.dp; omega) ?_)
  unfold dictSetHashed
  try with_reducible refine wpAny_holding ?_
  refine wpAny_bind (wp_findV (s := { s with toks := s.toks + k.draws }) hu hkey ho hd he his hn ?_ ?_)
  · intro hno
    exact wpAny_bind (wpAny_rule (wpAny_updateDictKeys (hz := hsz) (s := { s with toks := s.toks + k.draws }) ho hd
      (h2 hno _ _ (Heap.get?_update_self _ ho (Obj.isFreed_of_dict (Obj.data_mapDictKeys hd _))) (hc.mapDictKeys _) (Obj.data_mapDictKeys hd _) (Heap.SameBut.update ..))))
  · intro j p hj
    exact wpAny_bind (wpAny_rule (wpAny_bind (wpAny_updateDict (s := { s with toks := s.toks + k.draws }) ho hd
      (wpAny_point (h1 j p hj _ _ (Heap.get?_update_self _ ho (Obj.isFreed_of_dict (Obj.data_mapDict hd _))) (hc.mapDict _) (Obj.data_mapDict hd _) (Heap.SameBut.update ..))))))
theorem wp_setItem {v : Value} {Q : Unit → Shared → Prop} (hu : A.units + 1 + 8 < cLine) (hkey : KOk s.heap k key) (ho : s.heap.get? d = some o) (hc : o.ExactDict) (hd : o.data = .dict es ep)
    (he : es.toList = xs.map (entV w)) (his : ∀ x ∈ xs, KOk s.heap x.1 x.2.1) (hn : (xs.map (·.1)).Nodup) (hsz : es.size ≤ sizeLine)
    (h1 : ∀ (j : Nat) (p : Value × Value), xs[j]? = some (k, p) → ∀ h' o', h'.get? d = some o' → o'.ExactDict → o'.data = .dict (es.modify j fun e => { e with val := v }) ep → Heap.SameBut d s.heap h' → Q () { s with heap := h', toks := s.toks + k.draws })
    (h2 : (∀ (j : Nat) (p : Value × Value), xs[j]? ≠ some (k, p)) → ∀ h' o', h'.get? d = some o' → o'.ExactDict → o'.data = .dict (es.push ⟨k.hash w, key, v⟩) (ep + 1) → Heap.SameBut d s.heap h' → Q () { s with heap := h', toks := s.toks + k.draws }) :
    wpAny (model prog w) A (setItem (.ref d) key v) Q E s := by
  have hT : s.TypeIs (.ref d) "dict" := ⟨o, ho, hc.1⟩
  unfold setItem
  try with_reducible refine wpAny_holding ?_
  refine wpAny_bind (wpAny_sequenceKey hT (by decide) ?_)
  refine wpAny_bind (wpAny_callSpecial?_slot (name := Str.ofString "__setitem__") hT F.slot_dict_setitem
    (wpAny_call_entry F.slot_dict_setitem hT F.entry_dict_setitem ?_ (F.args_dict_setitem_3 _ _ _)))
  show wpAny _ _ (Builtin.Dict.notOrdered "__setitem__" ⟨[.ref d, key, v], []⟩ >>= _) _ _ s
  refine wpAny_bind (wpAny_notOrdered_dict hT ?_)
  show wpAny _ _ (dictSet d key v >>= _) _ _ s
  exact wpAny_bind (wp_dictSet hu hkey ho hc hd he his hn hsz (fun j p hj h' o' e1 e2 e3 e4 => wpAny_pure ⟨.none, rfl, wpAny_pure (h1 j p hj h' o' e1 e2 e3 e4)⟩) fun hno h' o' e1 e2 e3 e4 => wpAny_pure ⟨.none, rfl, wpAny_pure (h2 hno h' o' e1 e2 e3 e4)⟩)
theorem wp_setdefault {dflt : Value} {Q : Value → Shared → Prop} (hu : A.units + 1 + 8 < cLine) (hkey : KOk s.heap k key) (low : (d == sysModules) = false) (ho : s.heap.get? d = some o) (hc : o.ExactDict) (hd : o.data = .dict es ep)
    (he : es.toList = xs.map (entV w)) (his : ∀ x ∈ xs, KOk s.heap x.1 x.2.1) (hn : (xs.map (·.1)).Nodup) (hsz : es.size ≤ sizeLine)
    (h1 : ∀ (j : Nat) (p : Value × Value), xs[j]? = some (k, p) → Q p.2 { s with toks := s.toks + k.draws })
    (h2 : (∀ (j : Nat) (p : Value × Value), xs[j]? ≠ some (k, p)) → ∀ h' o', h'.get? d = some o' → o'.ExactDict → o'.data = .dict (es.push ⟨k.hash w, key, dflt⟩) (ep + 1) → Heap.SameBut d s.heap h' → Q dflt { s with heap := h', toks := s.toks + k.draws }) :
    wpAny (model prog w) A (call (.builtin "dict.setdefault") [.ref d, key, dflt]) Q E s := by
  have hT : s.TypeIs (.ref d) "dict" := ⟨o, ho, hc.1⟩
  refine call_meetsIn F.slot_dict_setdefault hT F.entry_dict_setdefault (F.args_dict_setdefault_3 _ _ _) (S := fun A' R s' => A' = A ∧ s' = s ∧ (∀ (j : Nat) (p : Value × Value), xs[j]? = some (k, p) → R (.ok (.ret p.2)) { s with toks := s.toks + k.draws }) ∧
    ((∀ (j : Nat) (p : Value × Value), xs[j]? ≠ some (k, p)) → ∀ h' o', h'.get? d = some o' → o'.ExactDict → o'.data = .dict (es.push ⟨k.hash w, key, dflt⟩) (ep + 1) → Heap.SameBut d s.heap h' → R (.ok (.ret dflt)) { s with heap := h', toks := s.toks + k.draws })) (fun A' R s' hS => ?_) ⟨rfl, rfl, h1, h2⟩
  obtain ⟨rfl, rfl, g1, g2⟩ := hS
  unfold Builtin.«dict.setdefault»
  refine wpAny_bind ?_
  unfold Builtin.Dict.keyAndDefault
  refine wpAny_bind (wpAny_notOrdered_dict hT ?_)
  show wpAny _ _ (pure (d, key, some dflt)) _ _ _
  refine wpAny_pure ?_
  show wpAny _ _ (if (d == sysModules) = true then _ else (dictSetDefault d key dflt >>= _)) _ _ _
  rw [if_neg (by rw [low]; exact Bool.false_ne_true)]
  refine wpAny_bind ?_
  unfold dictSetDefault
  try with_reducible refine wpAny_holding ?_
  refine wpAny_bind (pyHash_key k key A'.in1 s' _ hkey.is (by have := hkey.dp; show A'.units + 1 + k.depth < cLine; omega) ?_)
  refine wpAny_bind (wp_findV (s := { s' with toks := s'.toks + k.draws }) hu hkey ho hd he his hn ?_ ?_)
  · intro hno
    exact wpAny_bind (wpAny_rule (wpAny_bind (wpAny_updateDictKeys (hz := hsz) (s := { s' with toks := s'.toks + k.draws }) ho hd (wpAny_pure (wpAny_pure
      (g2 hno _ _ (Heap.get?_update_self _ ho (Obj.isFreed_of_dict (Obj.data_mapDictKeys hd _))) (hc.mapDictKeys _) (Obj.data_mapDictKeys hd _) (Heap.SameBut.update ..)))))))
  · intro j p hj
    refine wpAny_bind (wpAny_dictEntries (s := { s' with toks := s'.toks + k.draws }) ho hd ?_)
    rw [entV_at he j, hj]
    exact wpAny_bind (wpAny_rule (wpAny_pure (wpAny_pure (g1 j p hj))))
/-- what is stored at a key -/
theorem wp_dictGet {Q : Option Value → Shared → Prop} (hu : A.units + 8 < cLine) (hkey : KOk s.heap k key) (ho : s.heap.get? d = some o) (hd : o.data = .dict es ep) (he : es.toList = xs.map (entV w)) (his : ∀ x ∈ xs, KOk s.heap x.1 x.2.1) (hn : (xs.map (·.1)).Nodup)
    (h1 : ∀ (j : Nat) (p : Value × Value), xs[j]? = some (k, p) → Q (some p.2) { s with toks := s.toks + k.draws }) (h2 : (∀ (j : Nat) (p : Value × Value), xs[j]? ≠ some (k, p)) → Q none { s with toks := s.toks + k.draws }) :
    wpAny (model prog w) A (dictGet d key) Q E s := by
  unfold dictGet
  try with_reducible refine wpAny_holding ?_
  refine wpAny_bind (pyHash_key k key _ s _ hkey.is (by have := hkey.dp; omega) (wpAny_bind (wp_findV (s := { s with toks := s.toks + k.draws }) hu hkey ho hd he his hn (fun hno => wpAny_pure (h2 hno)) fun j p hj => ?_)))
  refine wpAny_bind (wpAny_dictEntries (s := { s with toks := s.toks + k.draws }) ho hd ?_)
  rw [entV_at he j, hj]
  exact wpAny_pure (h1 j p hj)
theorem wp_getItem {Q : Value → Shared → Prop} {j : Nat} {p : Value × Value} (hu : A.units + 1 + 8 < cLine) (hkey : KOk s.heap k key) (ho : s.heap.get? d = some o) (hc : o.ExactDict) (hd : o.data = .dict es ep) (he : es.toList = xs.map (entV w)) (his : ∀ x ∈ xs, KOk s.heap x.1 x.2.1) (hn : (xs.map (·.1)).Nodup)
    (hj : xs[j]? = some (k, p)) (h : Q p.2 { s with toks := s.toks + k.draws }) : wpAny (model prog w) A (getItem (.ref d) key) Q E s := by
  have hT : s.TypeIs (.ref d) "dict" := ⟨o, ho, hc.1⟩
  unfold getItem
  try with_reducible refine wpAny_holding ?_
  refine wpAny_bind (wpAny_sequenceKey hT (by decide) (wpAny_bind (wpAny_callSpecial?_slot (name := Str.ofString "__getitem__") hT F.slot_dict_getitem (wpAny_call_entry F.slot_dict_getitem hT F.entry_dict_getitem ?_ (F.args_dict_getitem_2 _ _)))))
  show wpAny _ _ (dictGet d key >>= _) _ _ s
  refine wpAny_bind (wp_dictGet hu hkey ho hd he his hn (fun i q hi => ?_) fun hno => absurd hj (hno j p))
  have e := ke_unique hn hj hi
  subst e
  rw [hj] at hi
  cases hi
  exact wpAny_pure ⟨p.2, rfl, wpAny_pure h⟩
/-- key in d -/
theorem wp_contains {Q : Bool → Shared → Prop} (hu : A.units + 1 + 8 < cLine) (hkey : KOk s.heap k key) (low : (d == sysModules) = false) (ho : s.heap.get? d = some o) (hc : o.ExactDict) (hd : o.data = .dict es ep) (he : es.toList = xs.map (entV w)) (his : ∀ x ∈ xs, KOk s.heap x.1 x.2.1) (hn : (xs.map (·.1)).Nodup)
    (h1 : ∀ (j : Nat) (p : Value × Value), xs[j]? = some (k, p) → Q true { s with toks := s.toks + k.draws }) (h2 : (∀ (j : Nat) (p : Value × Value), xs[j]? ≠ some (k, p)) → Q false { s with toks := s.toks + k.draws }) :
    wpAny (model prog w) A (contains (.ref d) key) Q E s := by
  have hT : s.TypeIs (.ref d) "dict" := ⟨o, ho, hc.1⟩
  refine wpAny_contains_slot hT F.slot_dict_contains (call_meetsIn F.slot_dict_contains hT F.entry_dict_contains (F.args_dict_contains_2 _ _) (S := fun A' R s' => A' = A ∧ s' = s ∧ (∀ (j : Nat) (p : Value × Value), xs[j]? = some (k, p) → R (.ok (.ret (.bool true))) { s with toks := s.toks + k.draws }) ∧
    ((∀ (j : Nat) (p : Value × Value), xs[j]? ≠ some (k, p)) → R (.ok (.ret (.bool false))) { s with toks := s.toks + k.draws })) (fun A' R s' hS => ?_) ⟨rfl, rfl, fun j p hj => wpAny_truthy_bool (h1 j p hj), fun hno => wpAny_truthy_bool (h2 hno)⟩)
  obtain ⟨rfl, rfl, g1, g2⟩ := hS
  show wpAny _ _ (dictGet d key >>= _) _ _ _
  refine wpAny_bind (wp_dictGet hu hkey ho hd he his hn (fun j p hj => ?_) fun hno => ?_)
  · show wpAny _ _ (ret (.bool true)) _ _ _
    exact wpAny_pure (g1 j p hj)
  · show wpAny _ _ (Builtin.Dict.pendingKey? d key >>= _) _ _ _
    exact wpAny_bind (wpAny_pendingKey_other low (wpAny_pure (g2 hno)))
end
end MP
/-! MiniPy D2: dicts whose keys are tuples, by values. -/
namespace MP
open PySem PySem.Spec PyProof.Rows L2
variable [TabC]
section
variable {X : Cx} {pins : List (Addr × Obj)} {σ : L2.St} {H : Hp} {s : Shared} {φ : Ph}
mutual
theorem nested_of (I : Inv X pins σ H s) : ∀ (d : D) (v : V) (u : Value) (k : NestedKey), Rep X.K φ H d v → RelV v u → keyOf d = some k → NestedIs s.heap k u
  | .non, _, _, _, r, rv, h => by
    cases r
    simp only [keyOf, Option.some.injEq] at h
    subst h
    cases (show _ = Value.none from rv)
    exact .none
  | .bl b, _, _, _, r, rv, h => by
    cases r
    simp only [keyOf, Option.some.injEq] at h
    subst h
    cases (show _ = Value.bool b from rv)
    exact .bool rfl
  | .int i, _, _, _, r, rv, h => by
    cases r
    simp only [keyOf, Option.some.injEq] at h
    subst h
    obtain ⟨t, rfl⟩ := (show ∃ t, _ = Value.int i t from rv)
    exact .int _ _
  | .str x, _, _, _, r, rv, h => by
    cases r
    simp only [keyOf, Option.some.injEq] at h
    subst h
    obtain ⟨t, rfl⟩ := (show ∃ t, _ = Value.str x t from rv)
    exact .text _ _
  | .tup l, _, _, k, r, rv, h => by
    simp only [keyOf, Option.map_eq_some_iff] at h
    obtain ⟨ks, h, rfl⟩ := h
    cases r with
    | @tup a xs _ h1 h2 h3 =>
      cases (show _ = Value.ref a from rv)
      obtain ⟨_, its, rr, o, e1, e2, n, e3⟩ := (show ObjOk X.prog X.w H s.heap a (.tup xs) from I.hok a _ h1)
      exact .tup e1 e2 e3 (by simpa using nesteds_of I l xs its ks h3 rr h)
    | @tupK a o its n xs _ h1 h2 h3 h4 h5 h6 =>
      cases (show _ = Value.ref a from rv)
      exact .tup (I.kIn a o h1) h2 h3 (nesteds_of I l xs _ ks h6 h5 h)
  | .ty _, _, _, _, _, _, h => by simp [keyOf] at h
  | .lst _, _, _, _, _, _, h => by simp [keyOf] at h
  | .scr _, _, _, _, _, _, h => by simp [keyOf] at h
  | .dct _ _, _, _, _, _, _, h => by simp [keyOf] at h
  | .ref _, _, _, _, _, _, h => by simp [keyOf] at h
  | .fn _, _, _, _, _, _, h => by simp [keyOf] at h
theorem nesteds_of (I : Inv X pins σ H s) : ∀ (l : List D) (vs : List V) (us : List Value) (ks : List NestedKey), Reps X.K φ H l vs → Vals vs us → keysOf l = some ks → NestedAll s.heap ks us
  | [], _, _, _, r, rv, h => by
    cases r
    cases rv
    simp only [keysOf, Option.some.injEq] at h
    subst h
    exact .nil
  | d :: l, _, _, _, r, rv, h => by
    cases r with
    | cons r1 r2 =>
      cases rv with
      | cons v1 v2 =>
        simp only [keysOf, Option.bind_eq_some_iff, Option.map_eq_some_iff] at h
        obtain ⟨k, h1, ks, h2, rfl⟩ := h
        exact .cons (nested_of I d _ _ k r1 v1 h1) (nesteds_of I l _ _ ks r2 v2 h2)
end
theorem tp_ref {d : D} {v : V} (r : Rep X.K φ H d v) (h : isTp d = true) : ∃ a, v = .ref a := by
  cases d <;> first | cases h | skip
  obtain ⟨a, xs, rfl, _, _⟩ := r.sqT
  exact ⟨a, rfl⟩
/-- the entries as the library's rules have them -/
def XsOk (X : Cx) (h : Heap) : List (D × D) → List (V × V) → List (NestedKey × Addr × Value) → Prop
  | [], [], [] => True
  | p :: l, q :: vs, x :: xs => keyOf p.1 = some x.1 ∧ (nestedKind X.prog X.w).is h x.1 x.2.1 ∧ q.1 = .ref x.2.1 ∧ RelV q.2 x.2.2 ∧ XsOk X h l vs xs
  | _, _, _ => False
theorem xs_of (hw : TabC.w = X.w) (I : Inv X pins σ H s) : ∀ {l : List (D × D)} {vs : List (V × V)} {es : List DictEntry}, Ents l vs es → RepP X.K φ H l vs → tKeys l = true →
    ∃ xs, es = xs.map (entryOfKey (nestedKind X.prog X.w)) ∧ XsOk X s.heap l vs xs
  | [], vs, es, h, r, t => by
    cases r
    cases es with
    | nil => exact ⟨[], rfl, True.intro⟩
    | cons _ _ => exact False.elim h
  | (kd, d) :: l, vs, es, h, r, t => by
    cases r with
    | cons r1 r2 r3 =>
      cases es with
      | nil => exact False.elim h
      | cons e es =>
        obtain ⟨⟨k, h1, h2, h3⟩, h4, h5, h6⟩ := h
        have t' : isTp kd = true ∧ tKeys l = true := by
          unfold tKeys at t
          rw [List.all_cons, Bool.and_eq_true] at t
          exact t
        obtain ⟨xs, e1, e2⟩ := xs_of hw I h6 r3 t'.2
        obtain ⟨a, rfl⟩ := tp_ref r1 t'.1
        have hk : e.key = .ref a := h4
        refine ⟨(k, a, e.val) :: xs, ?_, h1, ⟨by have := nested_of I kd _ _ k r1 h4 h1; rw [hk] at this; exact this, h2⟩, rfl, h5, e2⟩
        rw [List.map_cons, ← e1]
        refine congrArg (· :: es) ?_
        obtain ⟨eh, ek, ev⟩ := e
        show DictEntry.mk eh ek ev = ⟨k.hash X.w, .ref a, ev⟩
        rw [← hw, ← h3, ← hk]
theorem XsOk.keys {h : Heap} : ∀ {l : List (D × D)} {vs : List (V × V)} {xs : List (NestedKey × Addr × Value)}, XsOk X h l vs xs → (l.map fun p => keyOf p.1) = (xs.map (·.1)).map some
  | [], [], [], _ => rfl
  | p :: l, q :: vs, x :: xs, hx => by
    rw [List.map_cons, List.map_cons, List.map_cons, hx.1, XsOk.keys hx.2.2.2.2]
theorem XsOk.is {h : Heap} : ∀ {l : List (D × D)} {vs : List (V × V)} {xs : List (NestedKey × Addr × Value)}, XsOk X h l vs xs → ∀ x ∈ xs, (nestedKind X.prog X.w).is h x.1 x.2.1
  | [], [], [], _, _, hm => by cases hm
  | p :: l, q :: vs, x :: xs, hx, y, hm => by
    rcases List.mem_cons.mp hm with rfl | hm
    · exact hx.2.1
    · exact XsOk.is hx.2.2.2.2 y hm
theorem XsOk.get {h : Heap} : ∀ {l : List (D × D)} {vs : List (V × V)} {xs : List (NestedKey × Addr × Value)}, XsOk X h l vs xs → ∀ {j : Nat} {k : NestedKey} {p : Addr × Value}, xs[j]? = some (k, p) →
    ∃ kd d v, l[j]? = some (kd, d) ∧ keyOf kd = some k ∧ vs[j]? = some (.ref p.1, v) ∧ RelV v p.2
  | [], [], [], _, j, k, p, hj => by simp at hj
  | q :: l, w :: vs, x :: xs, hx, 0, k, p, hj => by
    simp at hj
    subst hj
    refine ⟨q.1, q.2, w.2, rfl, hx.1, ?_, hx.2.2.2.1⟩
    show some w = _
    rw [← hx.2.2.1]
  | q :: l, w :: vs, x :: xs, hx, j + 1, k, p, hj => by
    obtain ⟨kd, d, v, h1, h2, h3, h4⟩ := XsOk.get hx.2.2.2.2 (j := j) (k := k) (p := p) (by simpa using hj)
    exact ⟨kd, d, v, by simpa using h1, h2, by simpa using h3, h4⟩
theorem XsOk.not {h : Heap} : ∀ {l : List (D × D)} {vs : List (V × V)} {xs : List (NestedKey × Addr × Value)}, XsOk X h l vs xs → ∀ {k : NestedKey}, (∀ (j : Nat) (p : Addr × Value), xs[j]? ≠ some (k, p)) → dIx l k = none
  | [], [], [], _, k, _ => rfl
  | q :: l, w :: vs, x :: xs, hx, k, hn => by
    unfold dIx
    have h0 : ¬ keyOf q.1 = some k := fun z => hn 0 x.2 (by
      rw [hx.1] at z
      cases z
      rfl)
    have := XsOk.not hx.2.2.2.2 (k := k) fun j p hj => hn (j + 1) p (by simpa using hj)
    unfold dIx at this
    rw [List.findIdx?_cons, decide_eq_false h0, this]
    rfl
theorem dIx_of : ∀ {l : List (D × D)} {k : NestedKey}, (l.map fun p => keyOf p.1).Nodup → ∀ {j : Nat} {kd d : D}, l[j]? = some (kd, d) → keyOf kd = some k → dIx l k = some j
  | [], _, _, _, _, _, h, _ => by simp at h
  | q :: l, k, hn, 0, kd, d, h, hk => by
    simp at h
    subst h
    unfold dIx
    rw [List.findIdx?_cons, decide_eq_true hk]
    rfl
  | q :: l, k, hn, j + 1, kd, d, h, hk => by
    rw [List.map_cons, List.nodup_cons] at hn
    have h' : l[j]? = some (kd, d) := by simpa using h
    have ih := dIx_of hn.2 h' hk
    have hne : ¬ keyOf q.1 = some k := fun z => hn.1 (by
      rw [z, ← hk]
      exact List.mem_map.mpr ⟨_, List.mem_of_getElem? h', rfl⟩)
    unfold dIx at ih ⊢
    rw [List.findIdx?_cons, decide_eq_false hne, ih]
    rfl
theorem tKey_is {l : List (D × D)} {y : D} {k : NestedKey} (h : tKey l y = some k) : keyOf y = some k ∧ k.depth ≤ 8 := by
  unfold tKey at h
  rw [Option.bind_eq_some_iff] at h
  obtain ⟨k', h2, h3⟩ := h
  split at h3
  · cases h3
    exact ⟨h2, by assumption⟩
  · cases h3
/-! the entries, whatever their keys -/
def YsOk (X : Cx) (h : Heap) : List (D × D) → List (V × V) → List KE3 → Prop
  | [], [], [] => True
  | p :: l, q :: vs, x :: xs => keyOf p.1 = some x.1 ∧ KOk h x.1 x.2.1 ∧ RelV q.1 x.2.1 ∧ RelV q.2 x.2.2 ∧ YsOk X h l vs xs
  | _, _, _ => False
theorem ys_of (hw : TabC.w = X.w) (I : Inv X pins σ H s) : ∀ {l : List (D × D)} {vs : List (V × V)} {es : List DictEntry}, Ents l vs es → RepP X.K φ H l vs → ∃ xs, es = xs.map (entV X.w) ∧ YsOk X s.heap l vs xs
  | [], vs, es, h, r => by
    cases r
    cases es with
    | nil => exact ⟨[], rfl, True.intro⟩
    | cons _ _ => exact False.elim h
  | (kd, d) :: l, vs, es, h, r => by
    cases r with
    | cons r1 r2 r3 =>
      cases es with
      | nil => exact False.elim h
      | cons e es =>
        obtain ⟨⟨k, h1, h2, h3⟩, h4, h5, h6⟩ := h
        obtain ⟨xs, e1, e2⟩ := ys_of hw I h6 r3
        refine ⟨(k, e.key, e.val) :: xs, ?_, h1, ⟨nested_of I kd _ _ k r1 h4 h1, h2⟩, h4, h5, e2⟩
        rw [List.map_cons, ← e1]
        refine congrArg (· :: es) ?_
        obtain ⟨eh, ek, ev⟩ := e
        show DictEntry.mk eh ek ev = ⟨k.hash X.w, ek, ev⟩
        rw [← hw, ← h3]
theorem YsOk.keys {h : Heap} : ∀ {l : List (D × D)} {vs : List (V × V)} {xs : List KE3}, YsOk X h l vs xs → (l.map fun p => keyOf p.1) = (xs.map (·.1)).map some
  | [], [], [], _ => rfl
  | p :: l, q :: vs, x :: xs, hx => by
    rw [List.map_cons, List.map_cons, List.map_cons, hx.1, YsOk.keys hx.2.2.2.2]
theorem YsOk.is {h : Heap} : ∀ {l : List (D × D)} {vs : List (V × V)} {xs : List KE3}, YsOk X h l vs xs → ∀ x ∈ xs, KOk h x.1 x.2.1
  | [], [], [], _, _, hm => by cases hm
  | p :: l, q :: vs, x :: xs, hx, y, hm => by
    rcases List.mem_cons.mp hm with rfl | hm
    · exact hx.2.1
    · exact YsOk.is hx.2.2.2.2 y hm
theorem YsOk.get {h : Heap} : ∀ {l : List (D × D)} {vs : List (V × V)} {xs : List KE3}, YsOk X h l vs xs → ∀ {j : Nat} {k : NestedKey} {p : Value × Value}, xs[j]? = some (k, p) →
    ∃ kd d u v, l[j]? = some (kd, d) ∧ keyOf kd = some k ∧ vs[j]? = some (u, v) ∧ RelV v p.2
  | [], [], [], _, j, k, p, hj => by simp at hj
  | q :: l, w :: vs, x :: xs, hx, 0, k, p, hj => by
    simp at hj
    subst hj
    exact ⟨q.1, q.2, w.1, w.2, rfl, hx.1, rfl, hx.2.2.2.1⟩
  | q :: l, w :: vs, x :: xs, hx, j + 1, k, p, hj => by
    obtain ⟨kd, d, u, v, h1, h2, h3, h4⟩ := YsOk.get hx.2.2.2.2 (j := j) (k := k) (p := p) (by simpa using hj)
    exact ⟨kd, d, u, v, by simpa using h1, h2, by simpa using h3, h4⟩
theorem YsOk.not {h : Heap} : ∀ {l : List (D × D)} {vs : List (V × V)} {xs : List KE3}, YsOk X h l vs xs → ∀ {k : NestedKey}, (∀ (j : Nat) (p : Value × Value), xs[j]? ≠ some (k, p)) → dIx l k = none
  | [], [], [], _, k, _ => rfl
  | q :: l, w :: vs, x :: xs, hx, k, hn => by
    unfold dIx
    have h0 : ¬ keyOf q.1 = some k := fun z => hn 0 x.2 (by
      rw [hx.1] at z
      cases z
      rfl)
    have := YsOk.not hx.2.2.2.2 (k := k) fun j p hj => hn (j + 1) p (by simpa using hj)
    unfold dIx at this
    rw [List.findIdx?_cons, decide_eq_false h0, this]
    rfl
theorem YsOk.nodup {h : Heap} {l : List (D × D)} {vs : List (V × V)} {xs : List KE3} (e2 : YsOk X h l vs xs) (hn : (l.map fun p => keyOf p.1).Nodup) : (xs.map (·.1)).Nodup := by
  rw [e2.keys] at hn
  exact List.Pairwise.of_map some (fun _ _ z w => z (congrArg some w)) hn
theorem room8 (hu : X.A.units + 64 < cLine) : (nestedKind X.prog X.w).room X.A.in1 := by
  show X.A.units + 1 + 8 < cLine
  omega
theorem RepP.get {K : PySem.W.Frag} : ∀ {l : List (D × D)} {vs : List (V × V)} {j : Nat} {p : D × D}, RepP K φ H l vs → l[j]? = some p → ∃ u v, vs[j]? = some (u, v) ∧ Rep K φ H p.1 u ∧ Rep K φ H p.2 v
  | [], _, _, _, _, h => by simp at h
  | q :: l, _, 0, p, r, h => by
    cases r with
    | cons r1 r2 r3 =>
      simp at h
      subst h
      exact ⟨_, _, rfl, r1, r2⟩
  | q :: l, _, j + 1, p, r, h => by
    cases r with
    | cons r1 r2 r3 =>
      obtain ⟨u, v, h1, h2⟩ := RepP.get (j := j) r3 (by simpa using h)
      exact ⟨u, v, by simpa using h1, h2⟩
/-- what stands at an address that is held exactly -/
theorem exO_at {a : Addr} {o : Obj} (I : Inv X pins σ H s) (h : H a = some (exO a o)) : s.heap.get? a = some o := (I.hok a _ h).1
/-- d[y] -/
theorem d_get {A : Around} {E : Value → Shared → Prop} {Q : Value → Shared → Prop} {M : List D} {a y d : D} {e : Nat} {l : List (D × D)} {x yv : V} {v u : Value} (hA : (nestedKind X.prog X.w).room A.in1) (hw : TabC.w = X.w) (I : Inv X pins σ H s) (m : MH X.K φ H M) (ra : Rep X.K φ H a x) (rb : Rep X.K φ H y yv) (rx : RelV x v) (ry : RelV yv u)
    (hc : cont M a = some (.dct e l)) (hg : dGet l y = some d) (h : ∀ w' s' z, Inv X pins σ H s' → Rep X.K φ H d z → RelV z w' → Q w' s') : wpAny (model X.prog X.w) A (getItem v u) Q E s := by
  obtain ⟨b, o, es, ep, vs, rfl, h1, h2, h3, h4⟩ := dct_at m ra hc
  cases (show v = Value.ref b from rx)
  unfold dGet at hg
  rw [Option.bind_eq_some_iff] at hg
  obtain ⟨k, hk, hg⟩ := hg
  obtain ⟨t3, t4⟩ := tKey_is hk
  obtain ⟨xs, e1, e2⟩ := ys_of hw I h3.2 h4
  rw [Option.bind_eq_some_iff] at hg
  obtain ⟨j, hj, hg⟩ := hg
  rw [Option.map_eq_some_iff] at hg
  obtain ⟨p, hp, rfl⟩ := hg
  obtain ⟨q, hq⟩ : ∃ q, xs[j]? = some q := by
    have hl : xs.length = l.length := by
      have := congrArg List.length e2.keys
      simpa using this.symm
    have := (List.getElem?_eq_some_iff.mp hp).1
    exact ⟨xs[j]'(by omega), List.getElem?_eq_getElem _⟩
  obtain ⟨qk, qv⟩ := q
  obtain ⟨kd, d', u0, v', g1, g2, g3, g4⟩ := e2.get hq
  rw [hp] at g1
  cases g1
  have hkk : qk = k := by
    unfold dIx at hj
    have hf := List.findIdx?_eq_some_iff_getElem.mp hj
    obtain ⟨hlt, hpp, _⟩ := hf
    have hd := of_decide_eq_true hpp
    have : l[j] = (kd, d') := by
      have := List.getElem?_eq_getElem hlt
      rw [hp] at this
      exact (Option.some.inj this).symm
    rw [this, g2] at hd
    exact Option.some.inj hd
  subst hkk
  obtain ⟨u', v2, f1, f2, f3⟩ := h4.get hp
  rw [g3] at f1
  cases f1
  exact wp_getItem hA ⟨nested_of I y _ _ _ rb ry t3, t4⟩ (exO_at I h1) h2.ex h2.dat e1 e2.is (e2.nodup h3.1) hq (h _ _ _ (I.tok _) f3 g4)
end
end MP
/-! MiniPy D3: d[y] = v, d.setdefault(y, v) by values. -/
namespace MP
open PySem PySem.Spec PyProof.Rows L2
variable [TabC]
section
variable {X : Cx} {pins : List (Addr × Obj)} {σ : L2.St} {H : Hp} {s : Shared} {φ : Ph}
theorem Ents.len : ∀ {l : List (D × D)} {vs : List (V × V)} {es : List DictEntry}, Ents l vs es → es.length = l.length ∧ vs.length = l.length
  | [], [], [], _ => ⟨rfl, rfl⟩
  | p :: l, q :: vs, e :: es, h => by
    obtain ⟨a, b⟩ := Ents.len h.2.2.2
    exact ⟨by simp [a], by simp [b]⟩
theorem Ents.mod {d : D} {v : V} {u : Value} (ru : RelV v u) : ∀ {l : List (D × D)} {vs : List (V × V)} {es : List DictEntry} (j : Nat), Ents l vs es → Ents (l.modify j fun p => (p.1, d)) (vs.modify j fun q => (q.1, v)) (es.modify j fun e => { e with val := u })
  | [], [], [], j, _ => by simp [Ents]
  | p :: l, q :: vs, e :: es, 0, h => by
    show Ents ((p.1, d) :: l) ((q.1, v) :: vs) ({ e with val := u } :: es)
    exact ⟨h.1, h.2.1, ru, h.2.2.2⟩
  | p :: l, q :: vs, e :: es, j + 1, h => by
    simp only [List.modify_succ_cons]
    exact ⟨h.1, h.2.1, h.2.2.1, Ents.mod ru j h.2.2.2⟩
theorem Ents.push {y d : D} {yv v : V} {k : NestedKey} {ku u : Value} (hk : keyOf y = some k) (h8 : k.depth ≤ 8) (ry : RelV yv ku) (ru : RelV v u) : ∀ {l : List (D × D)} {vs : List (V × V)} {es : List DictEntry}, Ents l vs es → Ents (l ++ [(y, d)]) (vs ++ [(yv, v)]) (es ++ [⟨k.hash TabC.w, ku, u⟩])
  | [], [], [], _ => ⟨⟨k, hk, h8, rfl⟩, ry, ru, True.intro⟩
  | p :: l, q :: vs, e :: es, h => ⟨h.1, h.2.1, h.2.2.1, Ents.push hk h8 ry ru h.2.2.2⟩
theorem RepP.mod {K : PySem.W.Frag} {d : D} {v : V} (r : Rep K φ H d v) : ∀ {l : List (D × D)} {vs : List (V × V)} (j : Nat), RepP K φ H l vs → RepP K φ H (l.modify j fun p => (p.1, d)) (vs.modify j fun q => (q.1, v))
  | [], _, j, h => by
    cases h
    simp
    exact .nil
  | (k, x) :: l, _, 0, h => by
    cases h with
    | cons h1 h2 h3 => exact .cons h1 r h3
  | (k, x) :: l, _, j + 1, h => by
    cases h with
    | cons h1 h2 h3 =>
      simp only [List.modify_succ_cons]
      exact .cons h1 h2 (RepP.mod r j h3)
theorem RepP.push {K : PySem.W.Frag} {y d : D} {yv v : V} (ry : Rep K φ H y yv) (r : Rep K φ H d v) : ∀ {l : List (D × D)} {vs : List (V × V)}, RepP K φ H l vs → RepP K φ H (l ++ [(y, d)]) (vs ++ [(yv, v)])
  | [], _, h => by
    cases h
    exact .cons ry r .nil
  | (k, x) :: l, _, h => by
    cases h with
    | cons h1 h2 h3 => exact .cons h1 h2 (RepP.push ry r h3)
theorem keys_mod {d : D} : ∀ (l : List (D × D)) (j : Nat), ((l.modify j fun p => (p.1, d)).map fun p => keyOf p.1) = l.map fun p => keyOf p.1
  | [], j => by simp
  | p :: l, 0 => rfl
  | p :: l, j + 1 => by
    simp only [List.modify_succ_cons, List.map_cons, keys_mod l j]
theorem dIx_none {k : NestedKey} : ∀ {l : List (D × D)}, dIx l k = none → some k ∉ l.map fun p => keyOf p.1
  | [], _ => by simp
  | p :: l, h => by
    unfold dIx at h
    rw [List.findIdx?_cons] at h
    split at h
    · cases h
    · rename_i hp
      have hp' : ¬ keyOf p.1 = some k := fun z => hp (decide_eq_true z)
      have h' : dIx l k = none := by
        unfold dIx
        cases hq : l.findIdx? (fun p => decide (keyOf p.1 = some k)) with
        | none => rfl
        | some j => rw [hq] at h; cases h
      rw [List.map_cons, List.mem_cons, not_or]
      exact ⟨fun z => hp' z.symm, dIx_none h'⟩
theorem nodup_push {y d : D} {k : NestedKey} {l : List (D × D)} (hn : (l.map fun p => keyOf p.1).Nodup) (hk : keyOf y = some k) (h : dIx l k = none) : ((l ++ [(y, d)]).map fun p => keyOf p.1).Nodup := by
  rw [List.map_append, List.nodup_append]
  refine ⟨hn, by simp, fun a ha b hb => ?_⟩
  simp at hb
  subst hb
  rintro rfl
  rw [hk] at ha
  exact dIx_none h ha
/-- the object at a place is another dict now -/
theorem put_place {M : List D} {n e' : Nat} {a : Addr} {o o' : Obj} {es' : Array DictEntry} {ep' : Nat} {l' : List (D × D)} {vs' : List (V × V)} {h' : Heap} {t' : Nat} (I : Inv X pins σ H s) (m : MH X.K φ H M) (hn : φ.f[n]? = some a) (ha : H a = some (exO a o)) (hs : Heap.SameBut a s.heap h') (h1 : h'.get? a = some o')
    (hr : RawD a o' es' ep') (hq : e' = 0 ∨ e' = ep' + 1) (he : EntsOk l' vs' es'.toList) (rp : RepP X.K φ H l' vs') : Inv X pins σ (upd H a (exO a o')) { s with heap := h', toks := t' } ∧ Ext φ H φ (upd H a (exO a o')) ∧ MH X.K φ (upd H a (exO a o')) (M.set n (.dct e' l')) := by
  have e : Ext φ H φ (upd H a (exO a o')) := Ext.set (M := M) hn
  refine ⟨d_write I (by rw [ha]; exact True.intro) hs ⟨_, h1⟩ ⟨h1, ⟨_, h1⟩, fun h1 h2 f k => k _ f⟩, e, m.set hn (.dct upd_same hr hq he (RepP.ext e _ _ rp))⟩
theorem low_of {a : Addr} {o : Obj} {es : Array DictEntry} {ep : Nat} (h : RawD a o es ep) : (a == sysModules) = false := h.low
theorem xs_nodup {h : Heap} {l : List (D × D)} {vs : List (V × V)} {xs : List (NestedKey × Addr × Value)} (e2 : XsOk X h l vs xs) (hn : (l.map fun p => keyOf p.1).Nodup) : (xs.map (·.1)).Nodup := by
  rw [e2.keys] at hn
  exact List.Pairwise.of_map some (fun _ _ z w => z (congrArg some w)) hn
/-- what d[y] = v and d.setdefault(y, v) leave where the key is new -/
theorem push_place {M : List D} {n e : Nat} {a : Addr} {ya : Value} {yv : V} {o o' : Obj} {es : Array DictEntry} {ep : Nat} {l : List (D × D)} {vs : List (V × V)} {y d : D} {v : V} {u : Value} {k : NestedKey} {h' : Heap} {t' : Nat} (hw : TabC.w = X.w) (I : Inv X pins σ H s) (m : MH X.K φ H M) (hn : φ.f[n]? = some a) (ha : H a = some (exO a o)) (hr : RawD a o es ep) (hq : e = 0 ∨ e = ep + 1) (he : EntsOk l vs es.toList) (rp : RepP X.K φ H l vs)
    (rb : Rep X.K φ H y yv) (ryv : RelV yv ya) (rd : Rep X.K φ H d v) (ru : RelV v u) (hk : keyOf y = some k) (h8 : k.depth ≤ 8) (hl : l.length < lim) (hno : dIx l k = none)
    (g1 : h'.get? a = some o') (g2 : o'.ExactDict) (g3 : o'.data = .dict (es.push ⟨k.hash X.w, ya, u⟩) (ep + 1)) (hs : Heap.SameBut a s.heap h') :
    Inv X pins σ (upd H a (exO a o')) { s with heap := h', toks := t' } ∧ Ext φ H φ (upd H a (exO a o')) ∧ MH X.K φ (upd H a (exO a o')) (M.set n (.dct (epS e) (l ++ [(y, d)]))) := by
  have hsz : es.size = l.length := by
    rw [← Array.length_toList]
    exact he.2.len.1
  refine put_place I m hn ha hs g1 ⟨g2, g3, hr.low, by rw [Array.size_push, hsz]; exact hl⟩ (by unfold epS; rcases hq with rfl | rfl <;> simp) ⟨nodup_push he.1 hk hno, ?_⟩ (rp.push rb rd)
  rw [Array.toList_push, ← hw]
  exact he.2.push hk h8 ryv ru
theorem mod_place {M : List D} {n j e : Nat} {a : Addr} {o o' : Obj} {es : Array DictEntry} {ep : Nat} {l : List (D × D)} {vs : List (V × V)} {d : D} {v : V} {u : Value} {h' : Heap} {t' : Nat} (I : Inv X pins σ H s) (m : MH X.K φ H M) (hn : φ.f[n]? = some a) (ha : H a = some (exO a o)) (hr : RawD a o es ep) (hq : e = 0 ∨ e = ep + 1) (he : EntsOk l vs es.toList) (rp : RepP X.K φ H l vs)
    (rd : Rep X.K φ H d v) (ru : RelV v u)
    (g1 : h'.get? a = some o') (g2 : o'.ExactDict) (g3 : o'.data = .dict (es.modify j fun e => { e with val := u }) ep) (hs : Heap.SameBut a s.heap h') :
    Inv X pins σ (upd H a (exO a o')) { s with heap := h', toks := t' } ∧ Ext φ H φ (upd H a (exO a o')) ∧ MH X.K φ (upd H a (exO a o')) (M.set n (.dct e (l.modify j fun p => (p.1, d)))) := by
  refine put_place I m hn ha hs g1 ⟨g2, g3, hr.low, by rw [Array.size_modify]; exact hr.sz⟩ hq ⟨by rw [keys_mod]; exact he.1, ?_⟩ (rp.mod rd j)
  have : (es.modify j fun e => { e with val := u }).toList = es.toList.modify j fun e => { e with val := u } := by
    obtain ⟨es⟩ := es
    simp
  rw [this]
  exact he.2.mod ru j
/-- a dict at a place -/
theorem dplace {M : List D} {n e : Nat} {x : V} {l : List (D × D)} (m : MH X.K φ H M) (r : Rep X.K φ H (.ref n) x) (h : M[n]? = some (.dct e l)) : ∃ a o es ep vs, x = .ref a ∧ φ.f[n]? = some a ∧ H a = some (exO a o) ∧ RawD a o es ep ∧ (e = 0 ∨ e = ep + 1) ∧ EntsOk l vs es.toList ∧ RepP X.K φ H l vs := by
  cases r with
  | ref h1 =>
    cases m.at_ _ _ _ h1 h with
    | dct h2 h3 h4 h5 h6 => exact ⟨_, _, _, _, _, rfl, h1, h2, h3, h4, h5, h6⟩
/-- d[y] = v -/
theorem d_set {M : List D} {n e : Nat} {l : List (D × D)} {y d : D} {x yv vv : V} {v u r : Value} {q : Nat × List (D × D)} {E : Value → Shared → Prop} {Q : Unit → Shared → Prop} {A : Around} (hA : (nestedKind X.prog X.w).room A.in1) (hw : TabC.w = X.w) (I : Inv X pins σ H s) (m : MH X.K φ H M) (ra : Rep X.K φ H (.ref n) x) (rb : Rep X.K φ H y yv) (rd : Rep X.K φ H d vv)
    (rx : RelV x v) (ry : RelV yv u) (rr : RelV vv r) (hc : M[n]? = some (.dct e l)) (hp : dPut e l y d = some q)
    (h : ∀ s' H', Inv X pins σ H' s' → Ext φ H φ H' → MH X.K φ H' (M.set n (.dct q.1 q.2)) → Q () s') : wpAny (model X.prog X.w) A (setItem v u r) Q E s := by
  obtain ⟨a, o, es, ep, vs, rfl, hn, h2, h3, hq, h5, h6⟩ := dplace m ra hc
  cases (show v = Value.ref a from rx)
  unfold dPut at hp
  split at hp
  · rename_i hl
    rw [Option.bind_eq_some_iff] at hp
    obtain ⟨k, hk, hp⟩ := hp
    obtain ⟨t3, t4⟩ := tKey_is hk
    obtain ⟨xs, e1, e2⟩ := ys_of hw I h5.2 h6
    have key : KOk s.heap k u := ⟨nested_of I y _ _ _ rb ry t3, t4⟩
    refine wp_setItem hA key (exO_at I h2) h3.ex h3.dat e1 e2.is (e2.nodup h5.1) h3.sz (fun j p hj h' o' g1 g2 g3 g4 => ?_) fun hno h' o' g1 g2 g3 g4 => ?_
    · obtain ⟨kd, d', u0, v', f1, f2, f3, f4⟩ := e2.get hj
      rw [dIx_of h5.1 f1 f2] at hp
      cases hp
      obtain ⟨z1, z2, z3⟩ := mod_place (t' := s.toks + k.draws) I m hn h2 h3 hq h5 h6 rd rr g1 g2 g3 g4
      exact h _ _ z1 z2 z3
    · have hno' := e2.not hno
      rw [hno'] at hp
      cases hp
      obtain ⟨z1, z2, z3⟩ := push_place (t' := s.toks + k.draws) hw I m hn h2 h3 hq h5 h6 rb ry rd rr t3 t4 hl hno' g1 g2 g3 g4
      exact h _ _ z1 z2 z3
  · cases hp
/-- d.setdefault(y, v) -/
theorem d_setd {M M' : List D} {n : Nat} {y d d2 : D} {x yv vv : V} {v u r : Value} {E : Value → Shared → Prop} {Q : Value → Shared → Prop} {A : Around} (hA : (nestedKind X.prog X.w).room A.in1) (hw : TabC.w = X.w) (I : Inv X pins σ H s) (m : MH X.K φ H M) (ra : Rep X.K φ H (.ref n) x) (rb : Rep X.K φ H y yv) (rd : Rep X.K φ H d vv)
    (rx : RelV x v) (ry : RelV yv u) (rr : RelV vv r) (hp : setdS M (.ref n) y d = some (d2, M'))
    (h : ∀ s' H' w z, Inv X pins σ H' s' → Ext φ H φ H' → MH X.K φ H' M' → Rep X.K φ H' d2 w → RelV w z → Q z s') : wpAny (model X.prog X.w) A (call (.builtin "dict.setdefault") [v, u, r]) Q E s := by
  unfold setdS at hp
  simp only at hp
  split at hp
  · rename_i e l hc
    obtain ⟨a, o, es, ep, vs, rfl, hn, h2, h3, hq, h5, h6⟩ := dplace m ra hc
    cases (show v = Value.ref a from rx)
    split at hp
    · rename_i hl
      rw [Option.bind_eq_some_iff] at hp
      obtain ⟨k, hk, hp⟩ := hp
      obtain ⟨t3, t4⟩ := tKey_is hk
      obtain ⟨xs, e1, e2⟩ := ys_of hw I h5.2 h6
      have key : KOk s.heap k u := ⟨nested_of I y _ _ _ rb ry t3, t4⟩
      refine wp_setdefault hA key h3.low (exO_at I h2) h3.ex h3.dat e1 e2.is (e2.nodup h5.1) h3.sz (fun j p hj => ?_) fun hno h' o' g1 g2 g3 g4 => ?_
      · obtain ⟨kd, d', u0, v', f1, f2, f3, f4⟩ := e2.get hj
        rw [dIx_of h5.1 f1 f2] at hp
        simp only [f1, Option.map_some, Option.some.injEq, Prod.mk.injEq] at hp
        obtain ⟨rfl, rfl⟩ := hp
        obtain ⟨u', v2, q1, q2, q3⟩ := h6.get f1
        rw [f3] at q1
        cases q1
        exact h _ _ _ _ (I.tok _) Ext.refl m q3 f4
      · have hno' := e2.not hno
        rw [hno'] at hp
        simp only [Option.some.injEq, Prod.mk.injEq] at hp
        obtain ⟨rfl, rfl⟩ := hp
        obtain ⟨z1, z2, z3⟩ := push_place (t' := s.toks + k.draws) hw I m hn h2 h3 hq h5 h6 rb ry rd rr t3 t4 hl hno' g1 g2 g3 g4
        exact h _ _ _ _ z1 z2 z3 (Rep.ext z2 _ _ rd) rr
    · cases hp
  · cases hp
end
end MP
/-! MiniPy 4: comparisons, subscripts, slices, built-ins, methods by values. -/
namespace MP
open PySem PySem.Spec PyProof.Rows L2
variable [TabC]

/-! ### freezing, and data of any depth -/
section
variable {K : PySem.W.Frag} {φ : Ph} {H : Hp} {M : List D}
mutual
theorem dp_sub {g : Nat → Option D} (hg : ∀ k a d' pd, φ.f[k]? = some a → g k = some d' → toPD d' = some pd → Dp K H (.ref a) pd) :
    ∀ (d : D) (v : V) (d' : D) (pd : PyData), Rep K φ H d v → sub g d = some d' → toPD d' = some pd → Dp K H v pd
  | .non, _, _, _, h, e, t => by cases h; simp [sub] at e; subst e; simp [toPD] at t; subst t; exact .non
  | .bl b, _, _, _, h, e, t => by cases h; simp [sub] at e; subst e; simp [toPD] at t; subst t; exact .bl _
  | .int i, _, _, _, h, e, t => by cases h; simp [sub] at e; subst e; simp [toPD] at t; subst t; exact .int _
  | .str x, _, _, _, h, e, t => by cases h; simp [sub] at e; subst e; simp [toPD] at t; subst t; exact .str _
  | .ty n, _, _, _, h, e, t => by simp [sub] at e; subst e; simp [toPD] at t
  | .fn n, _, _, _, h, e, t => by simp [sub] at e; subst e; simp [toPD] at t
  | .tup l, _, _, _, h, e, t => by
    simp [sub] at e
    obtain ⟨l', e, rfl⟩ := e
    simp [toPD] at t
    obtain ⟨ps, t, rfl⟩ := t
    obtain ⟨a, xs, rfl, s, r⟩ := h.sqT
    exact .tup s (dps_sub hg l xs l' ps r e t)
  | .lst l, _, _, _, h, e, t => by
    simp [sub] at e
    obtain ⟨l', e, rfl⟩ := e
    simp [toPD] at t
    obtain ⟨ps, t, rfl⟩ := t
    cases h with
    | lst h1 h2 r => exact .lst (SqL.of h1) (dps_sub hg l _ l' ps r e t)
  | .scr l, _, _, _, h, e, t => by
    simp [sub] at e
    obtain ⟨l', e, rfl⟩ := e
    simp [toPD] at t
  | .dct _ l, _, _, _, h, e, t => by
    simp [sub] at e
    obtain ⟨l', e, rfl⟩ := e
    simp [toPD] at t
  | .ref n, _, d', pd, h, e, t => by
    cases h with
    | ref h1 => exact hg n _ d' pd h1 (by simpa [sub] using e) t
theorem dps_sub {g : Nat → Option D} (hg : ∀ k a d' pd, φ.f[k]? = some a → g k = some d' → toPD d' = some pd → Dp K H (.ref a) pd) :
    ∀ (l : List D) (vs : List V) (l' : List D) (ps : List PyData), Reps K φ H l vs → subs g l = some l' → toPDs l' = some ps → DpAll K H vs ps
  | [], _, _, _, h, e, t => by cases h; simp [subs] at e; subst e; simp [toPDs] at t; subst t; exact .nil
  | d :: l, _, _, _, h, e, t => by
    cases h with
    | cons h1 h2 =>
      simp [subs, Option.bind_eq_some_iff] at e
      obtain ⟨d', e1, l', e2, rfl⟩ := e
      simp [toPDs, Option.bind_eq_some_iff] at t
      obtain ⟨p, t1, ps, t2, rfl⟩ := t
      exact .cons (dp_sub hg d _ d' p h1 e1 t1) (dps_sub hg l _ l' ps h2 e2 t2)
end
theorem dp_gf (m : MH K φ H M) : ∀ (n k : Nat) (a : Addr) (d' : D) (pd : PyData), φ.f[k]? = some a → gf M 0 n k = some d' → toPD d' = some pd → Dp K H (.ref a) pd
  | 0, k, a, d', pd, h, e, t => by simp [gf] at e
  | n + 1, k, a, d', pd, h, e, t => by
    simp [gf, Option.bind_eq_some_iff] at e
    obtain ⟨c, hc, e⟩ := e
    have ob := m.at_ k a c h hc
    cases ob with
    | lst h1 r =>
      simp [sub] at e
      obtain ⟨l', e, rfl⟩ := e
      simp [toPD] at t
      obtain ⟨ps, t, rfl⟩ := t
      exact .lst (SqL.of h1) (dps_sub (dp_gf m n) _ _ l' ps r e t)
    | dct h1 _ _ _ _ =>
      simp [sub] at e
      obtain ⟨l', e, rfl⟩ := e
      simp [toPD] at t
mutual
theorem sub_key {g : Nat → Option D} : ∀ (d : D) (k : NestedKey), keyOf d = some k → sub g d = some d
  | .non, _, _ => by simp [sub]
  | .bl _, _, _ => by simp [sub]
  | .int _, _, _ => by simp [sub]
  | .str _, _, _ => by simp [sub]
  | .tup l, k, h => by
    simp only [keyOf, Option.map_eq_some_iff] at h
    obtain ⟨ks, h, _⟩ := h
    simp [sub, subs_key l ks h]
  | .ty _, _, h => by simp [keyOf] at h
  | .lst _, _, h => by simp [keyOf] at h
  | .scr _, _, h => by simp [keyOf] at h
  | .dct _ _, _, h => by simp [keyOf] at h
  | .ref _, _, h => by simp [keyOf] at h
  | .fn _, _, h => by simp [keyOf] at h
theorem subs_key {g : Nat → Option D} : ∀ (l : List D) (ks : List NestedKey), keysOf l = some ks → subs g l = some l
  | [], _, _ => by simp [subs]
  | d :: r, ks, h => by
    simp only [keysOf, Option.bind_eq_some_iff, Option.map_eq_some_iff] at h
    obtain ⟨k, h1, ks', h2, _⟩ := h
    simp [subs, sub_key d k h1, subs_key r ks' h2]
end
theorem ents_sub {g : Nat → Option D} : ∀ {l l' : List (D × D)} {vs : List (V × V)} {es : List DictEntry}, subd g l = some l' → Ents l vs es → Ents l' vs es ∧ (l'.map fun p => keyOf p.1) = l.map fun p => keyOf p.1
  | [], l', vs, es, e, h => by
    simp [subd] at e
    subst e
    exact ⟨h, rfl⟩
  | (k, d) :: l, l', vs, es, e, h => by
    match vs, es, h with
    | (u, v) :: vs, en :: es, h =>
      obtain ⟨⟨kk, h1, h2⟩, h3, h4, h5⟩ := h
      simp only [subd, Option.bind_eq_some_iff, Option.map_eq_some_iff] at e
      obtain ⟨k', e1, d', e2, r', e3, rfl⟩ := e
      rw [sub_key k kk h1] at e1
      cases e1
      obtain ⟨q1, q2⟩ := ents_sub e3 h5
      exact ⟨⟨⟨kk, h1, h2⟩, h3, h4, q1⟩, by rw [List.map_cons, List.map_cons, q2]⟩
theorem entsOk_sub {g : Nat → Option D} {l l' : List (D × D)} {vs : List (V × V)} {es : List DictEntry} (e : subd g l = some l') (h : EntsOk l vs es) : EntsOk l' vs es := by
  obtain ⟨q1, q2⟩ := ents_sub e h.2
  exact ⟨by rw [q2]; exact h.1, q1⟩
theorem dp_frz (m : MH K φ H M) {n : Nat} {d d' : D} {v : V} {pd : PyData} (r : Rep K φ H d v) (e : (frz M 0 n d) = some d') (t : toPD d' = some pd) : Dp K H v pd :=
  dp_sub (dp_gf m n) d v d' pd r e t
mutual
theorem rep_sub {g : Nat → Option D} {φ' : Ph} (hs : ∀ a, Out φ a → Out φ' a) (hg : ∀ k a d', φ.f[k]? = some a → g k = some d' → Rep K φ' H d' (.ref a)) :
    ∀ (d : D) (v : V) (d' : D), Rep K φ H d v → sub g d = some d' → Rep K φ' H d' v
  | .non, _, _, h, e => by cases h; simp [sub] at e; subst e; exact .non
  | .bl b, _, _, h, e => by cases h; simp [sub] at e; subst e; exact .bl _
  | .int i, _, _, h, e => by cases h; simp [sub] at e; subst e; exact .int _
  | .str x, _, _, h, e => by cases h; simp [sub] at e; subst e; exact .str _
  | .ty n, _, _, h, e => by cases h; simp [sub] at e; subst e; exact .ty _
  | .fn n, _, _, h, e => by simp [sub] at e; subst e; cases h with | fn h => exact .fn h
  | .tup l, _, _, h, e => by
    simp [sub] at e
    obtain ⟨l', e, rfl⟩ := e
    cases h with
    | tup h1 h2 r => exact .tup h1 (hs _ h2) (reps_sub hs hg l _ l' r e)
    | tupK h1 h2 h3 h4 h5 r => exact .tupK h1 h2 h3 h4 h5 (reps_sub hs hg l _ l' r e)
  | .lst l, _, _, h, e => by
    simp [sub] at e
    obtain ⟨l', e, rfl⟩ := e
    cases h with
    | lst h1 h2 r => exact .lst h1 (hs _ h2) (reps_sub hs hg l _ l' r e)
  | .scr l, _, _, h, e => by
    simp [sub] at e
    obtain ⟨l', e, rfl⟩ := e
    cases h with
    | scr h1 r => exact .scr (h1.mp fun b o h _ n => ⟨h, hs b n⟩) (reps_sub hs hg l _ l' r e)
  | .dct _ l, _, _, h, e => by
    simp [sub] at e
    obtain ⟨l', e, rfl⟩ := e
    cases h with
    | dct h1 h2 h3 h4 h5 => exact .dct h1 (hs _ h2) h3 (entsOk_sub e h4) (repP_sub hs hg l _ l' h5 e)
  | .ref n, _, d', h, e => by
    cases h with
    | ref h1 => exact hg n _ d' h1 (by simpa [sub] using e)
theorem reps_sub {g : Nat → Option D} {φ' : Ph} (hs : ∀ a, Out φ a → Out φ' a) (hg : ∀ k a d', φ.f[k]? = some a → g k = some d' → Rep K φ' H d' (.ref a)) :
    ∀ (l : List D) (vs : List V) (l' : List D), Reps K φ H l vs → subs g l = some l' → Reps K φ' H l' vs
  | [], _, _, h, e => by cases h; simp [subs] at e; subst e; exact .nil
  | d :: l, _, _, h, e => by
    cases h with
    | cons h1 h2 =>
      simp [subs, Option.bind_eq_some_iff] at e
      obtain ⟨d', e1, l', e2, rfl⟩ := e
      exact .cons (rep_sub hs hg d _ d' h1 e1) (reps_sub hs hg l _ l' h2 e2)
theorem repP_sub {g : Nat → Option D} {φ' : Ph} (hs : ∀ a, Out φ a → Out φ' a) (hg : ∀ k a d', φ.f[k]? = some a → g k = some d' → Rep K φ' H d' (.ref a)) :
    ∀ (l : List (D × D)) (vs : List (V × V)) (l' : List (D × D)), RepP K φ H l vs → subd g l = some l' → RepP K φ' H l' vs
  | [], _, _, h, e => by cases h; simp [subd] at e; subst e; exact .nil
  | (k, d) :: l, _, _, h, e => by
    cases h with
    | cons h1 h2 h3 =>
      simp only [subd, Option.bind_eq_some_iff, Option.map_eq_some_iff] at e
      obtain ⟨k', e1, d', e2, l', e3, rfl⟩ := e
      exact .cons (rep_sub hs hg k _ k' h1 e1) (rep_sub hs hg d _ d' h2 e2) (repP_sub hs hg l _ l' h3 e3)
end
abbrev Ph.tk (φ : Ph) (n : Nat) : Ph := { φ with f := φ.f.take n }
theorem Out.tk {a : Addr} {n : Nat} (h : Out φ a) : Out (φ.tk n) a := ⟨fun z => h.1 (List.mem_of_mem_take z), h.2⟩
theorem take_ref {b k : Nat} {a : Addr} (h : φ.f[k]? = some a) (hk : k < b) : (φ.tk b).f[k]? = some a := by
  show (φ.f.take b)[k]? = some a
  rw [List.getElem?_take_of_lt hk]
  exact h
theorem not_take (m : MH K φ H M) {b k : Nat} {a : Addr} (h : φ.f[k]? = some a) (hk : ¬ k < b) : Out (φ.tk b) a := by
  refine ⟨fun hm => ?_, fun hb => (m.bar a hb).1 (List.mem_of_getElem? h)⟩
  have nd := m.nd
  replace hm : a ∈ φ.f.take b := hm
  obtain ⟨j, hj, e⟩ := List.mem_iff_getElem.mp hm
  have hj' : j < b ∧ j < φ.f.length := by
    rw [List.length_take] at hj
    omega
  have : φ.f[j]? = some a := by
    rw [List.getElem?_eq_getElem hj'.2]
    rw [List.getElem_take] at e
    rw [e]
  have := nd_ix' nd this h
  omega
theorem rep_gf (m : MH K φ H M) (b : Nat) : ∀ (n k : Nat) (a : Addr) (d' : D), φ.f[k]? = some a → gf M b n k = some d' → Rep K (φ.tk b) H d' (.ref a)
  | 0, k, a, d', h, e => by
    unfold gf at e
    by_cases hk : k < b
    · rw [if_pos hk] at e
      cases e
      exact .ref (take_ref h hk)
    · rw [if_neg hk] at e
      cases e
  | n + 1, k, a, d', h, e => by
    unfold gf at e
    by_cases hk : k < b
    · rw [if_pos hk] at e
      cases e
      exact .ref (take_ref h hk)
    · rw [if_neg hk, Option.bind_eq_some_iff] at e
      obtain ⟨c, hc, e⟩ := e
      cases m.at_ k a c h hc with
      | lst h1 r =>
        simp [sub] at e
        obtain ⟨l', e, rfl⟩ := e
        exact .lst h1 (not_take m h hk) (reps_sub (fun a ha => ha.tk) (rep_gf m b n) _ _ l' r e)
      | dct h1 h2 _ h4 h5 =>
        simp [sub] at e
        obtain ⟨l', e, rfl⟩ := e
        exact .dct h1 (not_take m h hk) h2 (entsOk_sub e h4) (repP_sub (fun a ha => ha.tk) (rep_gf m b n) _ _ l' h5 e)
theorem rep_frz (m : MH K φ H M) {b n : Nat} {d d' : D} {v : V} (r : Rep K φ H d v) (e : frz M b n d = some d') : Rep K (φ.tk b) H d' v :=
  rep_sub (fun a ha => ha.tk) (rep_gf m b n) d v d' r e
mutual
theorem rep_bel {b : Nat} : ∀ (d : D) (v : V), Rep K φ H d v → bel b d = true → Rep K (φ.tk b) H d v
  | .non, _, h, _ => by cases h; exact .non
  | .bl _, _, h, _ => by cases h; exact .bl _
  | .int _, _, h, _ => by cases h; exact .int _
  | .str _, _, h, _ => by cases h; exact .str _
  | .ty _, _, h, _ => by cases h; exact .ty _
  | .fn _, _, h, _ => by cases h with | fn h => exact .fn h
  | .tup l, _, h, e => by
    have e' : bels b l = true := by simpa [bel] using e
    cases h with
    | tup h1 h2 r => exact .tup h1 h2.tk (reps_bel l _ r e')
    | tupK h1 h2 h3 h4 h5 r => exact .tupK h1 h2 h3 h4 h5 (reps_bel l _ r e')
  | .lst l, _, h, e => by
    have e' : bels b l = true := by simpa [bel] using e
    cases h with
    | lst h1 h2 r => exact .lst h1 h2.tk (reps_bel l _ r e')
  | .scr l, _, h, e => by
    have e' : bels b l = true := by simpa [bel] using e
    cases h with
    | scr h1 r => exact .scr (h1.mp fun b o h _ n => ⟨h, n.tk⟩) (reps_bel l _ r e')
  | .dct _ l, _, h, e => by
    have e' : beld b l = true := by simpa [bel] using e
    cases h with
    | dct h1 h2 h3 h4 h5 => exact .dct h1 h2.tk h3 h4 (repP_bel l _ h5 e')
  | .ref n, _, h, e => by
    cases h with
    | ref h1 => exact .ref (take_ref h1 (by simpa [bel] using e))
theorem reps_bel {b : Nat} : ∀ (l : List D) (vs : List V), Reps K φ H l vs → bels b l = true → Reps K (φ.tk b) H l vs
  | [], _, h, _ => by cases h; exact .nil
  | d :: l, _, h, e => by
    have e' : bel b d = true ∧ bels b l = true := by simpa [bels] using e
    cases h with
    | cons h1 h2 => exact .cons (rep_bel d _ h1 e'.1) (reps_bel l _ h2 e'.2)
theorem repP_bel {b : Nat} : ∀ (l : List (D × D)) (vs : List (V × V)), RepP K φ H l vs → beld b l = true → RepP K (φ.tk b) H l vs
  | [], _, h, _ => by cases h; exact .nil
  | (k, d) :: l, _, h, e => by
    have e' : bel b k = true ∧ bel b d = true ∧ beld b l = true := by simpa [beld] using e
    cases h with
    | cons h1 h2 h3 => exact .cons (rep_bel k _ h1 e'.1) (rep_bel d _ h2 e'.2.1) (repP_bel l _ h3 e'.2.2)
end
mutual
/-- closed data lies the same way -/
theorem rep_clo {φ' : Ph} (k : ∀ a, Out φ a → Out φ' a) : ∀ (d : D) (v : V), Rep K φ H d v → bel 0 d = true → Rep K φ' H d v
  | .non, _, h, _ => by cases h; exact .non
  | .bl _, _, h, _ => by cases h; exact .bl _
  | .int _, _, h, _ => by cases h; exact .int _
  | .str _, _, h, _ => by cases h; exact .str _
  | .ty _, _, h, _ => by cases h; exact .ty _
  | .fn _, _, h, _ => by cases h with | fn h => exact .fn h
  | .tup l, _, h, e => by
    have e' : bels 0 l = true := by simpa [bel] using e
    cases h with
    | tup h1 h2 r => exact .tup h1 (k _ h2) (reps_clo k l _ r e')
    | tupK h1 h2 h3 h4 h5 r => exact .tupK h1 h2 h3 h4 h5 (reps_clo k l _ r e')
  | .lst l, _, h, e => by
    have e' : bels 0 l = true := by simpa [bel] using e
    cases h with
    | lst h1 h2 r => exact .lst h1 (k _ h2) (reps_clo k l _ r e')
  | .scr l, _, h, e => by
    have e' : bels 0 l = true := by simpa [bel] using e
    cases h with
    | scr h1 r => exact .scr (h1.mp fun b o h _ n => ⟨h, k _ n⟩) (reps_clo k l _ r e')
  | .dct _ l, _, h, e => by
    have e' : beld 0 l = true := by simpa [bel] using e
    cases h with
    | dct h1 h2 h3 h4 h5 => exact .dct h1 (k _ h2) h3 h4 (repP_clo k l _ h5 e')
  | .ref n, _, h, e => by simp [bel] at e
theorem reps_clo {φ' : Ph} (k : ∀ a, Out φ a → Out φ' a) : ∀ (l : List D) (vs : List V), Reps K φ H l vs → bels 0 l = true → Reps K φ' H l vs
  | [], _, h, _ => by cases h; exact .nil
  | d :: l, _, h, e => by
    have e' : bel 0 d = true ∧ bels 0 l = true := by simpa [bels] using e
    cases h with
    | cons h1 h2 => exact .cons (rep_clo k d _ h1 e'.1) (reps_clo k l _ h2 e'.2)
theorem repP_clo {φ' : Ph} (k : ∀ a, Out φ a → Out φ' a) : ∀ (l : List (D × D)) (vs : List (V × V)), RepP K φ H l vs → beld 0 l = true → RepP K φ' H l vs
  | [], _, h, _ => by cases h; exact .nil
  | (x, d) :: l, _, h, e => by
    have e' : bel 0 x = true ∧ bel 0 d = true ∧ beld 0 l = true := by simpa [beld] using e
    cases h with
    | cons h1 h2 h3 => exact .cons (rep_clo k x _ h1 e'.1) (rep_clo k d _ h2 e'.2.1) (repP_clo k l _ h3 e'.2.2)
end
mutual
theorem bel_rep : ∀ (d : D) (v : V), Rep K φ H d v → bel φ.f.length d = true
  | .non, _, _ => by simp [bel]
  | .bl _, _, _ => by simp [bel]
  | .int _, _, _ => by simp [bel]
  | .str _, _, _ => by simp [bel]
  | .ty _, _, _ => by simp [bel]
  | .fn _, _, _ => by simp [bel]
  | .tup l, _, h => by
    obtain ⟨a, xs, rfl, s, r⟩ := h.sqT
    simpa [bel] using bels_rep l _ r
  | .lst l, _, h => by
    cases h with
    | lst h1 h2 r => simpa [bel] using bels_rep l _ r
  | .scr l, _, h => by
    cases h with
    | scr h1 r => simpa [bel] using bels_rep l _ r
  | .dct _ l, _, h => by
    cases h with
    | dct h1 h2 h3 h4 h5 => simpa [bel] using beld_rep l _ h5
  | .ref n, _, h => by
    cases h with
    | ref h1 => simpa [bel] using (List.getElem?_eq_some_iff.mp h1).1
theorem bels_rep : ∀ (l : List D) (vs : List V), Reps K φ H l vs → bels φ.f.length l = true
  | [], _, _ => by simp [bels]
  | d :: l, _, h => by
    cases h with
    | cons h1 h2 => simp [bels, bel_rep d _ h1, bels_rep l _ h2]
theorem beld_rep : ∀ (l : List (D × D)) (vs : List (V × V)), RepP K φ H l vs → beld φ.f.length l = true
  | [], _, _ => by simp [beld]
  | (k, d) :: l, _, h => by
    cases h with
    | cons h1 h2 h3 => simp [beld, bel_rep k _ h1, bel_rep d _ h2, beld_rep l _ h3]
end
theorem bels_all {b : Nat} : ∀ {l : List D}, (∀ d ∈ l, bel b d = true) → bels b l = true
  | [], _ => by simp [bels]
  | d :: l, h => by
    simp [bels, h d List.mem_cons_self, bels_all (l := l) fun x hx => h x (List.mem_cons_of_mem _ hx)]
theorem bel_mem {b : Nat} : ∀ {l : List D}, bels b l = true → ∀ d ∈ l, bel b d = true
  | [], _, d, h => by cases h
  | x :: l, e, d, h => by
    have e' : bel b x = true ∧ bels b l = true := by simpa [bels] using e
    rcases List.mem_cons.mp h with rfl | h
    · exact e'.1
    · exact bel_mem e'.2 d h
/-- the heap of all places looks at places that are -/
theorem MH.bel {M : List D} (m : MH K φ H M) : bels φ.f.length M = true := by
  refine bels_all fun d hd => ?_
  obtain ⟨n, hn, e⟩ := List.mem_iff_getElem.mp hd
  have hn' : n < φ.f.length := by rw [m.len]; exact hn
  cases m.at_ n _ d (List.getElem?_eq_getElem hn') (by rw [List.getElem?_eq_getElem hn, e]) with
  | lst h1 r => simpa [MP.bel] using bels_rep _ _ r
  | dct h1 _ _ _ h5 => simpa [MP.bel] using beld_rep _ _ h5
/-- the elder part stands for itself -/
theorem MH.take {M : List D} (m : MH K φ H M) {b : Nat} (h : bels b (M.take b) = true) : MH K (φ.tk b) H (M.take b) := by
  refine ⟨m.nd.sublist (List.take_sublist _ _), by simp [m.len], fun b' hb => ⟨fun z => (m.bar b' hb).1 (List.mem_of_mem_take z), (m.bar b' hb).2⟩, m.tab, fun n a d h1 h2 => ?_⟩
  replace h1 : (φ.f.take b)[n]? = some a := h1
  have hb : n < b := by
    have := (List.getElem?_eq_some_iff.mp h1).1
    rw [List.length_take] at this
    omega
  rw [List.getElem?_take_of_lt hb] at h1
  have hd := bel_mem h d (List.mem_of_getElem? h2)
  rw [List.getElem?_take_of_lt hb] at h2
  cases m.at_ n a d h1 h2 with
  | lst h3 r => exact .lst h3 (reps_bel _ _ r (by simpa [MP.bel] using hd))
  | dct h3 h4 h5 h6 h7 => exact .dct h3 h4 h5 h6 (repP_bel _ _ h7 (by simpa [MP.bel] using hd))
end

/-! ### comparisons -/
def cpOf : Cop → CmpOp
  | .eq => .Eq | .ne => .NotEq | .lt => .Lt | .le => .LtE | .gt => .Gt | .ge => .GtE | .inn => .In | .nin => .NotIn | .isx => .Is | .isn => .IsNot
section
variable {K : PySem.W.Frag} {φ : Ph} {H : Hp} {M : List D}
theorem eqS_dp (m : MH K φ H M) {a b : D} {x y : V} {k : Bool} (ra : Rep K φ H a x) (rb : Rep K φ H b y) (e : eqD M a b = some k) :
    ∃ d e', Dp K H x d ∧ Dp K H y e' ∧ SeqAt.shaped d = true ∧ SeqAt.shaped e' = true ∧ k = PyData.eqv d e' := by
  unfold eqD at e
  split at e
  · rename_i p q hp hq
    rw [Option.bind_eq_some_iff] at hp hq
    obtain ⟨a', fa, ta⟩ := hp
    obtain ⟨b', fb, tb⟩ := hq
    split at e
    · rename_i hs
      cases e
      rw [Bool.and_eq_true] at hs
      exact ⟨p, q, dp_frz m ra fa ta, dp_frz m rb fb tb, hs.1, hs.2, rfl⟩
    · cases e
  · cases e
theorem flat_rep {a : D} {x : V} (r : Rep K φ H a x) (h : flat a = true) : flatV x = true := by
  cases r <;> first | rfl | (simp [flat] at h)
theorem flats_rep : ∀ {l : List D} {xs : List V}, Reps K φ H l xs → l.all flat = true → xs.all flatV = true
  | [], _, h, _ => by cases h; rfl
  | d :: l, _, h, e => by
    cases h with
    | cons h1 h2 =>
      rw [List.all_cons, Bool.and_eq_true] at e ⊢
      exact ⟨flat_rep h1 e.1, flats_rep h2 e.2⟩
theorem eqFl_rep {a b : D} {x y : V} (ra : Rep K φ H a x) (rb : Rep K φ H b y) (ha : flat a = true) (hb : flat b = true) : eqFl a b = eqV x y := by
  cases ra <;> first | (simp [flat] at ha; done) | skip
  all_goals (cases rb <;> first | (simp [flat] at hb; done) | rfl)
theorem any_rep {b : D} {y : V} (rb : Rep K φ H b y) (hb : flat b = true) : ∀ {l : List D} {xs : List V}, Reps K φ H l xs → l.all flat = true → (l.any fun z => eqFl z b) = inV y xs
  | [], _, h, _ => by cases h; rfl
  | d :: l, _, h, e => by
    cases h with
    | cons h1 h2 =>
      rw [List.all_cons, Bool.and_eq_true] at e
      unfold inV
      rw [List.any_cons, List.any_cons, eqFl_rep h1 rb e.1 hb, any_rep rb hb h2 e.2]
      rfl
end
theorem ints_of {K : PySem.W.Frag} {φ : Ph} {H : Hp} {a b : D} {x y : V} {k : Bool} (p : Int → Int → Bool) (ra : Rep K φ H a x) (rb : Rep K φ H b y)
    (hp : twoI p a b = some k) : ∃ i j, x = .int i ∧ y = .int j ∧ k = p i j := by
  cases ra <;> cases rb <;> first | (cases hp; exact ⟨_, _, rfl, rfl, rfl⟩) | cases hp
theorem is_cases {K : PySem.W.Frag} {φ : Ph} {H : Hp} {a b : D} {x y : V} {k : Bool} (ra : Rep K φ H a x) (rb : Rep K φ H b y) (e : isS a b = some k) :
    (∃ i j, x = .bl i ∧ y = .bl j ∧ k = decide (i = j)) ∨ (∃ i j, x = .ty i ∧ y = .ty j ∧ k = decide (i = j)) ∨ (y = .non ∧ k = decide (x = .non)) := by
  cases rb with
  | non => cases ra <;> simp [isS] at e <;> exact .inr (.inr ⟨rfl, by simp [← e]⟩)
  | bl j => cases ra <;> simp [isS] at e <;> exact .inl ⟨_, _, rfl, rfl, by simp [← e]⟩
  | ty j => cases ra <;> simp [isS] at e <;> exact .inr (.inl ⟨_, _, rfl, rfl, by simp [← e]⟩)
  | _ => cases ra <;> simp [isS] at e
section
variable {X : Cx}
theorem or_cmp (hu : X.A.units + 64 < cLine) (o : Cop) : OpR X (compareOp (cpOf o)) (rO X.K fun M x y => (cmpS M o x y).map .bl) := by
  intro pins s σ H x y v u Q I rx ry h
  obtain ⟨φ, M, a, b, d, m, ra, rb, e, q⟩ := h
  replace e : (cmpS M o a b).map .bl = some d := e
  rw [Option.map_eq_some_iff] at e
  obtain ⟨k, e, rfl⟩ := e
  have fin : Q (.bl k) H := end_same m (.bl k) q
  have hIn : ∀ {neg : Bool}, inS M neg a b = some k → rIn X.K neg x y H Q := by
    intro neg hp
    unfold inS at hp
    split at hp
    · rename_i l hl
      split at hp
      · rename_i hf
        rw [Bool.and_eq_true] at hf
        cases tup_at m rb hl
        obtain ⟨p, xs, rfl, sq, r⟩ := rb.sqT
        refine ⟨p, xs, rfl, .inr sq, flat_rep ra hf.1, flats_rep r hf.2, ?_⟩
        rw [← any_rep ra hf.1 r hf.2]
        cases hp
        cases neg <;> simpa using fin
      · cases hp
    · rename_i l hl
      split at hp
      · rename_i hf
        rw [Bool.and_eq_true] at hf
        obtain ⟨p, xs, rfl, sq, r⟩ := lst_at m rb hl
        refine ⟨p, xs, rfl, .inl (SqL.of sq), flat_rep ra hf.1, flats_rep r hf.2, ?_⟩
        rw [← any_rep ra hf.1 r hf.2]
        cases hp
        cases neg <;> simpa using fin
      · cases hp
    · cases hp
  cases o with
  | eq =>
    rcases eqS_cases e with ⟨c1, c2, rfl, rfl, rfl⟩ | e
    · cases ra
      cases rb
      refine op_eq pins s σ H _ _ v u Q I rx ry ⟨rfl, ?_⟩
      rw [show decide (V.str c1 = V.str c2) = decide (c1 = c2) by simp]
      exact fin
    obtain ⟨d1, d2, h1, h2, s1, s2, rfl⟩ := eqS_dp m ra rb e
    exact op_eqD hu pins s σ H _ _ v u Q I rx ry ⟨d1, d2, h1, h2, s1, s2, fin⟩
  | ne =>
    replace e : (eqS M a b).map not = some k := e
    rw [Option.map_eq_some_iff] at e
    obtain ⟨k', e', rfl⟩ := e
    rcases eqS_cases e' with ⟨c1, c2, rfl, rfl, rfl⟩ | e'
    · cases ra
      cases rb
      refine op_ne pins s σ H _ _ v u Q I rx ry ⟨rfl, ?_⟩
      rw [show (!decide (V.str c1 = V.str c2)) = !decide (c1 = c2) by simp]
      exact fin
    obtain ⟨d1, d2, h1, h2, s1, s2, rfl⟩ := eqS_dp m ra rb e'
    exact op_neD hu pins s σ H _ _ v u Q I rx ry ⟨d1, d2, h1, h2, s1, s2, fin⟩
  | lt =>
    obtain ⟨i, j, rfl, rfl, rfl⟩ := ints_of (fun i j => decide (i < j)) ra rb e
    exact op_lt pins s σ H _ _ v u Q I rx ry ⟨i, j, rfl, rfl, fin⟩
  | le =>
    obtain ⟨i, j, rfl, rfl, rfl⟩ := ints_of (fun i j => decide (i ≤ j)) ra rb e
    exact op_le pins s σ H _ _ v u Q I rx ry ⟨i, j, rfl, rfl, fin⟩
  | gt =>
    obtain ⟨i, j, rfl, rfl, rfl⟩ := ints_of (fun i j => decide (j < i)) ra rb e
    exact op_gt pins s σ H _ _ v u Q I rx ry ⟨i, j, rfl, rfl, fin⟩
  | ge =>
    obtain ⟨i, j, rfl, rfl, rfl⟩ := ints_of (fun i j => decide (j ≤ i)) ra rb e
    exact op_ge pins s σ H _ _ v u Q I rx ry ⟨i, j, rfl, rfl, fin⟩
  | inn => exact op_in_seq pins s σ H _ _ v u Q I rx ry (hIn (neg := false) e)
  | nin => exact op_notIn_seq pins s σ H _ _ v u Q I rx ry (hIn (neg := true) e)
  | isx =>
    rcases is_cases ra rb e with ⟨i, j, rfl, rfl, rfl⟩ | ⟨i, j, rfl, rfl, rfl⟩ | ⟨rfl, rfl⟩
    · exact op_is_bl pins s σ H _ _ v u Q I rx ry ⟨i, j, rfl, rfl, fin⟩
    · exact op_isTy pins s σ H _ _ v u Q I rx ry ⟨i, j, rfl, rfl, fin⟩
    · exact op_isN pins s σ H _ _ v u Q I rx ry ⟨rfl, fin⟩
  | isn =>
    replace e : (isS a b).map not = some k := e
    rw [Option.map_eq_some_iff] at e
    obtain ⟨k', e', rfl⟩ := e
    rcases is_cases ra rb e' with ⟨i, j, rfl, rfl, rfl⟩ | ⟨i, j, rfl, rfl, rfl⟩ | ⟨rfl, rfl⟩
    · exact op_isnot_bl pins s σ H _ _ v u Q I rx ry ⟨i, j, rfl, rfl, fin⟩
    · exact op_isNotTy pins s σ H _ _ v u Q I rx ry ⟨i, j, rfl, rfl, fin⟩
    · exact op_notN pins s σ H _ _ v u Q I rx ry ⟨rfl, fin⟩

/-! ### truth -/
theorem tru_rep {φ : Ph} {M : List D} {H : Hp} {a : D} {x : V} {k : Bool} (m : MH X.K φ H M) (ra : Rep X.K φ H a x) (e : truth M a = some k) : TruV X.K x H k := by
  unfold truth at e
  split at e
  · rename_i h
    cases scal_at m ra h (fun _ _ _ => ⟨by simp, by simp⟩)
    cases ra
    cases e
    rfl
  · rename_i b h
    cases scal_at m ra h (fun _ _ _ => ⟨by simp, by simp⟩)
    cases ra
    cases e
    rfl
  · rename_i i h
    cases scal_at m ra h (fun _ _ _ => ⟨by simp, by simp⟩)
    cases ra
    cases e
    rfl
  · rename_i l h
    cases tup_at m ra h
    obtain ⟨p, xs, rfl, sq, r⟩ := ra.sqT
    cases e
    refine .inr (.inl ⟨xs, sq, ?_⟩)
    cases r <;> rfl
  · rename_i l h
    obtain ⟨p, xs, rfl, sq, r⟩ := lst_at m ra h
    cases e
    refine .inl ⟨xs, SqL.of sq, ?_⟩
    cases r <;> rfl
  · rename_i l h
    cases scr_at m ra h
    cases ra with
    | scr h1 r =>
      cases e
      refine .inl ⟨_, h1.sq, ?_⟩
      cases r <;> rfl
  · cases e

/-! ### subscripts, slices -/
theorem atI_rep {φ : Ph} {H : Hp} {l : List D} {xs : List V} {i : Int} {d : D} (r : Reps X.K φ H l xs) (e : atI l i = some d) : ∃ v, atI xs i = some v ∧ Rep X.K φ H d v := by
  unfold atI at e ⊢
  rw [Option.bind_eq_some_iff] at e
  obtain ⟨j, e1, e2⟩ := e
  obtain ⟨v, h1, h2⟩ := r.get e2
  refine ⟨v, ?_, h2⟩
  rw [← r.length, e1]
  exact h1
theorem or_idx (hu : X.A.units + 64 < cLine) (hw : TabC.w = X.w) : IxR X (rO X.K fun M x y => idxS M x y) := by
  intro value slice pins s σ H x y v u Q I rx ry h hs
  obtain ⟨φ, M, a, b, d, m, ra, rb, e, q⟩ := h
  replace e : idxS M a b = some d := e
  unfold idxS at e
  split at e
  · rename_i l i hl
    cases tup_at m ra hl
    cases rb
    obtain ⟨p, xs, rfl, sq, r⟩ := ra.sqT
    obtain ⟨w, h1, h2⟩ := atI_rep r e
    exact ix_tup value slice pins s σ H _ _ v u Q I rx ry ⟨p, xs, i, w, rfl, rfl, sq, h1, end_same m h2 q⟩ hs
  · rename_i l i hl
    cases rb
    obtain ⟨p, xs, rfl, sq, r⟩ := lst_at m ra hl
    obtain ⟨w, h1, h2⟩ := atI_rep r e
    exact ix_list value slice pins s σ H _ _ v u Q I rx ry ⟨p, xs, i, w, rfl, rfl, SqL.of sq, h1, end_same m h2 q⟩ hs
  · rename_i l i hl
    cases rb
    cases scr_at m ra hl
    cases ra with
    | scr k1 r =>
      obtain ⟨w, h1, h2⟩ := atI_rep r e
      exact ix_list value slice pins s σ H _ _ v u Q I rx ry ⟨_, _, i, w, rfl, rfl, k1.sq, h1, end_same m h2 q⟩ hs
  · rename_i e0 l y0 hl
    obtain ⟨p, o, es, ep, vs, rfl, h1, h2, h3, h4⟩ := dct_at m ra hl
    obtain rfl : v = Value.ref p := rx
    exact tail_any (T := "dict") ⟨o, exO_at I h1, h2.ex.1⟩ slot_dict_getitem.lookup (d_get (room8 hu) hw I m ra rb (show RelV (.ref p) (.ref p) from rfl) ry hl e fun w' s' z I' r' rz => ⟨z, H, I', rz, end_same m r' q⟩) hs
  · cases e
theorem cut_rep {φ : Ph} {H : Hp} {l : List D} {xs : List V} (r : Reps X.K φ H l xs) (lo hi : Option Int) : Reps X.K φ H (cutD l lo hi) (cutV xs lo hi) := by
  unfold cutD cutV
  rw [r.length]
  exact (r.drop _).take _
theorem or_slc : SlR X (fun x lo hi H Q => ∃ φ M a d, MH X.K φ H M ∧ Rep X.K φ H a x ∧ slcS M a lo hi = some d ∧
    ∀ φ' H' v, Ext φ H φ' H' → MH X.K φ' H' M → Rep X.K φ' H' d v → Q v H') := by
  intro pins s σ H x v vl vu lo hi sl Q I rx hs pl pu h
  obtain ⟨φ, M, a, d, m, ra, e, q⟩ := h
  unfold slcS at e
  split at e
  · rename_i l hl
    cases tup_at m ra hl
    cases e
    obtain ⟨p, xs, rfl, sq, r⟩ := ra.sqT
    refine sl_tupA pins s σ H _ v vl vu lo hi sl Q I rx hs pl pu ⟨p, xs, rfl, sq, fun hw => end_same (d := .tup (cutD l lo hi)) m ?_ q, fun _ p hp => end_tup m hp (cut_rep r lo hi) q⟩
    have : cutD l lo hi = l := by
      unfold cutD
      rw [r.length, hw.1, hw.2]
      rw [List.drop_zero, Nat.sub_zero]
      exact List.take_of_length_le (by rw [r.length]; exact Nat.le_refl _)
    rw [this]
    exact ra
  · rename_i l hl
    cases e
    obtain ⟨p, xs, rfl, sq, r⟩ := lst_at m ra hl
    exact sl_list pins s σ H _ v vl vu lo hi sl Q I rx hs pl pu ⟨p, xs, rfl, SqL.of sq, fun p hp => end_lst m hp (cut_rep r lo hi) q⟩
  · rename_i l hl
    cases e
    cases scr_at m ra hl
    cases ra with
    | scr k1 r => exact sl_list pins s σ H _ v vl vu lo hi sl Q I rx hs pl pu ⟨_, _, rfl, k1.sq, fun p hp => end_lst m hp (cut_rep r lo hi) q⟩
  · cases e
theorem ps_setS (hu : X.A.units + 64 < cLine) (hw : TabC.w = X.w) : PSet X (fun o i v H Q => ∃ φ M a b c M', MH X.K φ H M ∧ Rep X.K φ H a o ∧ Rep X.K φ H b i ∧ Rep X.K φ H c v ∧ setS M a b c = some M' ∧
    ∀ H', Ext φ H φ H' → MH X.K φ H' M' → Q H') := by
  intro pins s σ H o i v ov iv u Q I ro ri rv h
  obtain ⟨φ, M, a, b, c, M', m, ra, rb, rc, e, q⟩ := h
  unfold setS at e
  split at e
  · rename_i n k
    cases rb
    cases ra with
    | @ref n a h1 =>
      split at e
      · rename_i l hl
        rw [Option.map_eq_some_iff] at e
        obtain ⟨j, e, rfl⟩ := e
        have ob := m.at_ n a _ h1 hl
        cases ob with
        | @lst _ xs _ h2 r =>
          refine set_list pins s σ H _ _ v ov iv u Q I ro ri rv ⟨a, xs, k, j, rfl, rfl, h2, by rw [← r.length]; exact e, ?_⟩
          have ex : Ext φ H φ (upd H a (.lst (xs.set j v))) := Ext.set (M := M) h1
          exact q _ ex (m.set h1 (.lst upd_same (Reps.ext ex _ _ (r.set rc j))))
      · cases e
  · rename_i n i0 _
    split at e
    · rename_i e0 l hl
      rw [Option.map_eq_some_iff] at e
      obtain ⟨q0, e, rfl⟩ := e
      exact d_set (room8 hu) hw I m ra rb rc ro ri rv hl e fun s' H' I' ex m' => ⟨H', I', q H' ex m'⟩
    · cases e
  · cases e
end
end MP
/-! MiniPy 4b: t[::-1] for a tuple or a list. -/
namespace MP
open PySem PySem.Spec PyProof.Rows L2 HT
section
variable {prog : Program} {w : World} {A : Around} {E : Value → Shared → Prop} {s : Shared}
theorem adjust_rev (n : Nat) : Builtin.Slice.sliceAdjust none none (-1) (n : Int) = ((n : Int) - 1, -1) := by
  unfold Builtin.Slice.sliceAdjust
  simp
theorem places_rev (n : Nat) : Builtin.Slice.slicePlaces ((n : Int) - 1) (-1) (-1) = n := by
  unfold Builtin.Slice.slicePlaces
  simp
  try omega
theorem sliceApplied_rev {sl : Addr} {vl vu vs : Value} {n : Nat} {Q : Int × Int × Nat → Shared → Prop} (hs : s.heap.IsSliceOf sl vl vu vs) (pl : IsPart vl none) (pu : IsPart vu none) (ps : IsPart vs (some (-1)))
    (h : Q ((n : Int) - 1, -1, n) s) : wpAny (model prog w) A (Builtin.Slice.sliceApplied (.ref sl) (pure (n : Int))) Q E s := by
  obtain ⟨os, hos, hcs, hds⟩ := id hs
  unfold Builtin.Slice.sliceApplied Builtin.Slice.sliceFields
  refine wpAny_bind (wpAny_bind (wpAny_field hos hds (x := vl) rfl (wpAny_bind (wpAny_field hos hds (x := vu) rfl (wpAny_bind (wpAny_field hos hds (x := vs) rfl (wpAny_pure ?_)))))))
  refine wpAny_bind (slicePart_ ps ?_)
  show wpAny _ _ (if ((-1 : Int) == 0) = true then _ else _) _ _ s
  rw [if_neg (by decide)]
  refine wpAny_bind (slicePart_ pl (wpAny_bind (slicePart_ pu (wpAny_bind (wpAny_pure ?_)))))
  show wpAny _ _ (match Builtin.Slice.sliceAdjust none none (-1) (n : Int) with | (lo, hi) => pure (lo, (-1 : Int), Builtin.Slice.slicePlaces lo hi (-1))) _ _ s
  rw [adjust_rev n]
  show wpAny _ _ (pure (((n : Int) - 1), (-1 : Int), Builtin.Slice.slicePlaces ((n : Int) - 1) (-1) (-1))) _ _ s
  rw [places_rev]
  exact wpAny_pure h
theorem fm_congr {α β : Type} {f g : α → Option β} : ∀ {l : List α}, (∀ m, m ∈ l → f m = g m) → l.filterMap f = l.filterMap g
  | [], _ => rfl
  | a :: r, h => by
    rw [List.filterMap_cons, List.filterMap_cons, h a (List.mem_cons_self ..), fm_congr fun m hm => h m (List.mem_cons_of_mem _ hm)]
theorem pick_rev (xs : Array Value) : ((List.range xs.size).filterMap fun (m : Nat) => xs[(((xs.size : Int) - 1) + (m : Int) * (-1)).toNat]?).toArray = xs.toList.reverse.toArray := by
  have e := PySem.W.krv_pick xs
  unfold slicePick at e
  rw [PySem.W.krv_bounds] at e
  rw [← e]
  show _ = ((sliceRange ((xs.size : Int) - 1) (-1) (-1)).filterMap (xs[·]?)).toArray
  rw [PySem.W.krv_sliceRange, List.filterMap_map]
  congr 1
  refine fm_congr fun m hm => ?_
  have : (((xs.size : Int) - 1) + (m : Int) * (-1)).toNat = xs.size - 1 - m := by
    have := List.mem_range.mp hm
    omega
  rw [this]
  rfl
theorem getItem_tuple_rev {t sl : Addr} {items : Array Value} {vl vu vs : Value} {Q : Value → Shared → Prop} (ht : IsTup s.heap t items) (hs : s.heap.IsSliceOf sl vl vu vs) (pl : IsPart vl none) (pu : IsPart vu none) (ps : IsPart vs (some (-1)))
    (h : Q (.ref s.heap.objs.size) { s with heap := s.heap.push { cls := .type "tuple", data := .seq items.toList.reverse.toArray } })
    (hsz : items.size ≤ sizeLine) : wpAny (model prog w) A (getItem (.ref t) (.ref sl)) Q E s := by
  have htake : sizeOk (.seq items.toList.reverse.toArray) := by
    show items.toList.reverse.toArray.size ≤ sizeLine
    rw [List.size_toArray, List.length_reverse, Array.length_toList]
    exact hsz
  obtain ⟨os, hos, hcs, hds⟩ := id hs
  have hTs : s.TypeIs (.ref sl) "slice" := ⟨os, hos, hcs⟩
  unfold getItem
  try with_reducible refine wpAny_holding ?_
  first | refine wpAny_bind (wpAny_pure ?_) | skip
  refine wpAny_bind (wpAny_sequenceKey ht.typeIs (by decide) ?_)
  refine wpAny_bind (wpAny_callSpecial?_slot (name := Str.ofString "__getitem__") ht.typeIs PyProof.Rows.slot_tuple_getitem
    (wpAny_call_entry PyProof.Rows.slot_tuple_getitem ht.typeIs entry_tuple_getitem ?_ (args_tuple_getitem _ _)))
  show wpAny _ _ (Builtin.Tuple.tupleItemsOf (.ref t) >>= _) _ _ s
  refine wpAny_bind (tupleItemsOf_ ht ?_)
  refine wpAny_bind (wpAny_typeOf hTs ?_)
  rw [if_pos (by decide)]
  refine wpAny_bind (sliceApplied_rev hs pl pu ps ?_)
  have hno : ¬ ((((items.size : Int) - 1) == 0 && (-1 : Int) == 1 && items.size == items.size) = true) := by
    intro q
    rw [Bool.and_eq_true, Bool.and_eq_true] at q
    exact absurd q.1.2 (by decide)
  show wpAny _ _ (if (((items.size : Int) - 1) == 0 && (-1 : Int) == 1 && items.size == items.size) = true then _ else _) _ _ s
  rw [if_neg hno, pick_rev]
  first
    | exact wpAny_bind (m := Builtin.Tuple.tupleExact _) (wpAny_newObj_type (wpAny_pure ⟨_, rfl, wpAny_pure h⟩) htake)
    | exact wpAny_bind (m := Builtin.Tuple.tupleExact _) (wpAny_newObj_type (wpAny_bind (wpAny_pure (wpAny_pure ⟨_, rfl, wpAny_pure h⟩))) htake)
    | exact wpAny_bind (wpAny_bind (m := Builtin.Tuple.tupleExact _) (wpAny_newObj_type (wpAny_pure (wpAny_pure ⟨_, rfl, wpAny_pure h⟩)) htake))
    | exact wpAny_bind (wpAny_bind (m := Builtin.Tuple.tupleExact _) (wpAny_newObj_type (wpAny_pure ⟨_, rfl, wpAny_pure h⟩) htake))
end
section
variable {X : Cx}
/-- xs[::-1], a tuple or a list -/
def tRevA (K : PySem.W.Frag) (te : TE) : TE := fun σ H Q => te σ H fun x H1 =>
  (∃ a xs, x = .ref a ∧ SqL K H1 a xs ∧ ∀ p, H1 p = none → Q (.ref p) (upd H1 p (.lst xs.reverse))) ∨
  (∃ a xs, x = .ref a ∧ SqT K H1 a xs ∧ ∀ p, H1 p = none → Q (.ref p) (upd H1 p (.tup xs.reverse)))
theorem pe_revA {e : Expr} {te : TE} {k : Nat} {p1 p2 p3 pos : Pos} (he : PE X e te) : PE X (.Subscript e (.Slice none none (some (.UnaryOp .USub (.Constant (.int 1) k p1) p2)) p3) pos) (tRevA X.K te) := by
  refine ⟨fun pins s σ H Q I h => ?_⟩
  refine Subscript_ (thn (he.run pins s σ H _ I h) fun v s1 ⟨x, H1, I1, r1, q1⟩ => ?_)
  have hst : PO X (some (.UnaryOp .USub (.Constant (.int 1) k p1) p2)) (tPart (tUn (rU fun i => .int (-i)) (tC (.int 1)))) := po_some (pe_un un_neg pe_int)
  refine wpAny_Slice (thn (po_none.run pins s1 σ H1 (fun o H2 => o = none ∧ H2 = H1) I1 ⟨rfl, rfl⟩) fun vl s2 ⟨l, H2, I2, pl, el, e2⟩ => ?_)
  subst el e2
  refine thn (po_none.run pins s2 σ H2 (fun o H3 => o = none ∧ H3 = H2) I2 ⟨rfl, rfl⟩) fun vu s3 ⟨u, H3, I3, pu, eu, e3⟩ => ?_
  subst eu e3
  refine thn (hst.run pins s3 σ H3 (fun o H4 => o = some (-1) ∧ H4 = H3) I3 ⟨1, rfl, -1, rfl, rfl, rfl⟩) fun vs s4 ⟨o, H4, I4, ps, eo, e4⟩ => ?_
  subst eo e4
  have I5 : Inv X pins σ H4 { s4 with heap := s4.heap.push { cls := .type "slice", data := .fields #[vl, vu, vs] } } := I4.kept (t' := s4.toks) fun b ob q => Heap.get?_push_of_some _ q
  rcases q1 with ⟨a, xs, ex, hx, q⟩ | ⟨a, xs, ex, hx, q⟩
  · subst ex
    cases r1
    obtain ⟨its, r, ht, hz⟩ := I5.list hx
    have hlen := r.length
    show wpAny (model X.prog X.w) X.A (subscriptTail e (.Slice none none (some (.UnaryOp .USub (.Constant (.int 1) k p1) p2)) p3) (.ref a) (.ref s4.heap.objs.size)) (EP X pins σ Q) X.xe { s4 with heap := s4.heap.push { cls := .type "slice", data := .fields #[vl, vu, vs] } }
    refine tail_any (ops := [.ref a, .ref s4.heap.objs.size]) ht.isList.typeIs (PySem.slot_list_getitem.lookup) ?_ (by with_unfolding_all rfl)
    refine wpAny_getItem_list_slice ht.isList (Heap.IsSliceOf.new _ vl vu vs) pl pu ps (by decide) ?_ (by rw [List.size_toArray]; omega)
    rw [PySem.W.krv_pick]
    refine ⟨.ref _, _, I5.laid (t' := s4.toks) (o := .lst xs.reverse) (fun b ob q => Heap.get?_push_of_some _ q) (Nat.le_refl _) ?_, rfl, q _ (I5.hok.fresh (Nat.le_refl _))⟩
    exact ⟨by rw [List.length_reverse]; exact hz, _, 0, r.reverse, Heap.get?_push_size _ rfl⟩
  · subst ex
    cases r1
    obtain ⟨its, r, ht, hz⟩ := I5.tuple hx
    have hlen := r.length
    show wpAny (model X.prog X.w) X.A (subscriptTail e (.Slice none none (some (.UnaryOp .USub (.Constant (.int 1) k p1) p2)) p3) (.ref a) (.ref s4.heap.objs.size)) (EP X pins σ Q) X.xe { s4 with heap := s4.heap.push { cls := .type "slice", data := .fields #[vl, vu, vs] } }
    refine tail_any (ops := [.ref a, .ref s4.heap.objs.size]) ht.typeIs (PyProof.Rows.slot_tuple_getitem.lookup) ?_ (by with_unfolding_all rfl)
    refine getItem_tuple_rev ht (Heap.IsSliceOf.new _ vl vu vs) pl pu ps ?_ (by rw [List.size_toArray]; omega)
    refine ⟨.ref _, _, I5.laid (t' := s4.toks) (o := .tup xs.reverse) (fun b ob q => Heap.get?_push_of_some _ q) (Nat.le_refl _) ?_, rfl, q _ (I5.hok.fresh (Nat.le_refl _))⟩
    exact ⟨by rw [List.length_reverse]; exact hz, _, r.reverse, IsTup.new _ _⟩
end
end MP
/-! MiniPy 5: built-ins and methods by values. -/
namespace MP
open PySem PySem.Spec PyProof.Rows L2
variable [TabC]

section
variable {K : PySem.W.Frag} {φ : Ph} {H : Hp} {M : List D}
theorem lstOf_at {x : D} {v : V} {l : List D} (m : MH K φ H M) (r : Rep K φ H x v) (h : lstOf M x = some l) : ∃ a xs, v = .ref a ∧ H a = some (.lst xs) ∧ Reps K φ H l xs := by
  unfold lstOf at h
  split at h
  · rename_i l' h'
    cases h
    exact lst_at m r h'
  · cases h
theorem lstI_at {x : D} {v : V} {ns : List Int} (m : MH K φ H M) (r : Rep K φ H x v) (h : (lstOf M x).bind allInts = some ns) : ∃ a, v = .ref a ∧ H a = some (.lst (ns.map V.int)) := by
  rw [Option.bind_eq_some_iff] at h
  obtain ⟨l, h1, h2⟩ := h
  obtain ⟨a, xs, rfl, h3, h4⟩ := lstOf_at m r h1
  rw [(h4.ints h2).1] at h3
  exact ⟨a, rfl, h3⟩
theorem lstB_at {x : D} {v : V} {ns : List Bool} (m : MH K φ H M) (r : Rep K φ H x v) (h : (lstOf M x).bind allBls = some ns) : ∃ a, v = .ref a ∧ H a = some (.lst (ns.map V.bl)) := by
  rw [Option.bind_eq_some_iff] at h
  obtain ⟨l, h1, h2⟩ := h
  obtain ⟨a, xs, rfl, h3, h4⟩ := lstOf_at m r h1
  rw [(h4.bls h2).1] at h3
  exact ⟨a, rfl, h3⟩
theorem leastI_mem : ∀ (l : List Int) (m : Int), leastI m l ∈ m :: l ∧ ∀ y ∈ m :: l, leastI m l ≤ y
  | [], m => by simp [leastI]
  | x :: r, m => by
    unfold leastI
    obtain ⟨h1, h2⟩ := leastI_mem r (if x < m then x else m)
    refine ⟨?_, fun y hy => ?_⟩
    · rcases List.mem_cons.mp h1 with e | e
      · rw [e]
        split <;> simp
      · exact List.mem_cons_of_mem _ (List.mem_cons_of_mem _ e)
    · have h0 := h2 _ List.mem_cons_self
      have hc : (if x < m then x else m) ≤ m ∧ (if x < m then x else m) ≤ x := by constructor <;> split <;> omega
      rcases List.mem_cons.mp hy with rfl | hy
      · exact Int.le_trans h0 hc.1
      · rcases List.mem_cons.mp hy with rfl | hy
        · exact Int.le_trans h0 hc.2
        · exact h2 y (List.mem_cons_of_mem _ hy)
theorem mostI_mem : ∀ (l : List Int) (m : Int), mostI m l ∈ m :: l ∧ ∀ y ∈ m :: l, y ≤ mostI m l
  | [], m => by simp [mostI]
  | x :: r, m => by
    unfold mostI
    obtain ⟨h1, h2⟩ := mostI_mem r (if x > m then x else m)
    refine ⟨?_, fun y hy => ?_⟩
    · rcases List.mem_cons.mp h1 with e | e
      · rw [e]
        split <;> simp
      · exact List.mem_cons_of_mem _ (List.mem_cons_of_mem _ e)
    · have h0 := h2 _ List.mem_cons_self
      have hc : m ≤ (if x > m then x else m) ∧ x ≤ (if x > m then x else m) := by constructor <;> split <;> omega
      rcases List.mem_cons.mp hy with rfl | hy
      · exact Int.le_trans hc.1 h0
      · rcases List.mem_cons.mp hy with rfl | hy
        · exact Int.le_trans hc.2 h0
        · exact h2 y (List.mem_cons_of_mem _ hy)
/-- types -/
inductive TyN (K : PySem.W.Frag) (H : Hp) : V → Value → Prop where
  | x {v : V} {t : Value} (h : TyX K H v t) : TyN K H v t
  | d {a : Addr} {o : Obj} (e : H a = some (exO a o)) (c : o.cls = .type "dict") : TyN K H (.ref a) (.type "dict")
def rIsiN (K : PySem.W.Frag) : List V → Hp → VK → Prop := fun xs H Q => ∃ (x c : V) (t u : Value) (b : Bool), xs = [x, c] ∧ ClsV c u ∧ TyN K H x t ∧ PySem.W.kitOne K t u = some b ∧ Q (.bl b) H
theorem call_isiN {X : Cx} : CallR X (.builtin "isinstance") (rIsiN X.K) := by
  intro pins s σ H xs us Q I r h
  obtain ⟨x, c, t, u, b, rfl, k, ty, e, q⟩ := h
  cases ty with
  | x ty => exact call_isi pins s σ H _ us Q I r ⟨x, c, t, u, b, rfl, k, ty, e, q⟩
  | d ea ec =>
    obtain ⟨u1, u2, rfl, r1, r2⟩ := vals2 r
    have e2 := k.eq r2
    subst e2
    cases r1
    have ho := (I.hok _ _ ea).1
    exact PySem.W.kia_one PySem.W.kitx_dict I.kIn ⟨_, ho, ec⟩ e (fun z => nomatch z) fun tk => ⟨.bl b, H, I.tok tk, rfl, q⟩
theorem tyS_ty {x : D} {v : V} {t : String} (m : MH K φ H M) (r : Rep K φ H x v) (h : tyS M x = some t) : TyN K H v (.type t) := by
  unfold tyS at h
  split at h
  · rename_i e
    cases scal_at m r e (fun _ _ _ => ⟨by simp, by simp⟩)
    cases r
    cases h
    exact .x <| .base .non
  · rename_i e
    cases scal_at m r e (fun _ _ _ => ⟨by simp, by simp⟩)
    cases r
    cases h
    exact .x <| .base (.bl _)
  · rename_i e
    cases scal_at m r e (fun _ _ _ => ⟨by simp, by simp⟩)
    cases r
    cases h
    exact .x <| .base (.int _)
  · rename_i e
    cases scal_at m r e (fun _ _ _ => ⟨by simp, by simp⟩)
    cases r
    cases h
    exact .x <| .base (.str _)
  · rename_i e
    cases tup_at m r e
    cases h
    cases r with
    | tup h1 h2 h3 => exact .x (.base (.tup h1))
    | tupK h1 h2 h3 h4 h5 h6 => exact .x (.kTuple h1 h2)
  · rename_i e
    obtain ⟨a, xs, rfl, h1, h2⟩ := lst_at m r e
    cases h
    exact .x <| .base (.lst h1)
  · cases h
  · rename_i e
    obtain ⟨a, o, es, ep, vs, rfl, h1, h2, h3, h4⟩ := dct_at m r e
    cases h
    exact .d h1 h2.ex.1
  · cases h
theorem tyS_in {x : D} {t : String} (h : tyS M x = some t) : t ∈ ["NoneType", "bool", "int", "str", "tuple", "list", "dict"] := by
  unfold tyS at h
  split at h <;> first | (cases h; decide) | cases h
theorem isiS_kit {t n : String} {b : Bool} (h1 : t ∈ ["NoneType", "bool", "int", "str", "tuple", "list", "dict"]) (h : isiS t n = some b) : PySem.W.kitOne K (.type t) (.type n) = some b := by
  unfold isiS at h
  split at h
  · rename_i e
    subst e
    cases h
    simp only [List.mem_cons, List.not_mem_nil, or_false] at h1
    rcases h1 with rfl | rfl | rfl | rfl | rfl | rfl | rfl <;> exact kit_ty (by decide +kernel)
  · split at h
    · rename_i e
      obtain ⟨rfl, rfl⟩ := e
      cases h
      exact kit_ty (by decide +kernel)
    · split at h
      · rename_i h2 h3 h4
        cases h
        simp only [List.mem_cons, List.not_mem_nil, or_false] at h1
        rcases h4 with rfl | rfl | rfl | rfl | rfl | rfl <;> (rcases h1 with rfl | rfl | rfl | rfl | rfl | rfl | rfl <;> first
          | exact kit_ty (by decide +kernel)
          | exact absurd rfl h2
          | exact absurd ⟨rfl, rfl⟩ h3)
      · cases h
end

/-- a built-in's value -/
def fvOf : Blt → Value
  | .len => .builtin "len" | .abs => .builtin "abs" | .int => .type "int" | .max => .builtin "max" | .min => .builtin "min" | .sum => .builtin "sum"
  | .all => .builtin "all" | .any => .builtin "any" | .isinst => .builtin "isinstance" | .repr => .builtin "repr" | .tuple => .type "tuple"
section
variable {X : Cx}
theorem or_blt (hc : X.calm = true) (b : Blt) : CallR X (fvOf b) (rC X.K fun M vs => bltS M b vs) := by
  intro pins s σ H xs us Q I r h
  obtain ⟨φ, M, as, d, m, ra, e, q⟩ := h
  replace e : bltS M b as = some d := e
  unfold bltS at e
  split at e
  · rename_i x
    rw [Option.map_eq_some_iff] at e
    obtain ⟨k, e, rfl⟩ := e
    cases ra with
    | cons r1 r2 =>
      cases r2
      have fin := end_same m (.int k) q
      unfold lenS at e
      split at e
      · rename_i l hl
        cases tup_at m r1 hl
        obtain ⟨p, ys, rfl, sq, rr⟩ := r1.sqT
        cases e
        rw [rr.length] at fin
        exact call_len pins s σ H _ us Q I r ⟨_, _, rfl, .inr ⟨ys, sq, rfl⟩, fin⟩
      · rename_i l hl
        obtain ⟨p, ys, rfl, sq, rr⟩ := lst_at m r1 hl
        cases e
        rw [rr.length] at fin
        exact call_len pins s σ H _ us Q I r ⟨_, _, rfl, .inl ⟨ys, SqL.of sq, rfl⟩, fin⟩
      · rename_i l hl
        cases scr_at m r1 hl
        cases r1 with
        | scr h1 rr =>
          cases e
          rw [rr.length] at fin
          exact call_len pins s σ H _ us Q I r ⟨_, _, rfl, .inl ⟨_, h1.sq, rfl⟩, fin⟩
      · rename_i x hl
        split at e
        · rename_i hz
          cases scal_at m r1 hl (fun _ _ _ => ⟨by simp, by simp⟩)
          cases r1
          cases e
          exact call_len pins s σ H _ us Q I r ⟨_, _, rfl, ⟨hz, rfl⟩, fin⟩
        · cases e
      · cases e
  · cases ra with
    | cons r1 r2 =>
      cases r2
      cases r1
      cases e
      exact call_abs pins s σ H _ us Q I r ⟨_, rfl, end_same m (.int _) q⟩
  · cases ra with
    | cons r1 r2 =>
      cases r2
      cases r1
      cases e
      exact call_int1 pins s σ H _ us Q I r (.inl ⟨_, rfl, end_same m (.int _) q⟩)
  · cases ra with
    | cons r1 r2 =>
      cases r2
      cases r1
      cases e
      exact call_int1 pins s σ H _ us Q I r (.inr ⟨_, rfl, end_same m (.int _) q⟩)
  · cases ra with
    | cons r1 r2 =>
      cases r2 with
      | cons r3 r4 =>
        cases r4
        cases r1
        cases r3
        cases e
        exact call_max2 hc pins s σ H _ us Q I r ⟨_, _, rfl, end_same m (.int _) q⟩
  · cases ra with
    | cons r1 r2 =>
      cases r2 with
      | cons r3 r4 =>
        cases r4
        cases r1
        cases r3
        cases e
        exact call_min2 hc pins s σ H _ us Q I r ⟨_, _, rfl, end_same m (.int _) q⟩
  · rename_i x
    rw [Option.bind_eq_some_iff] at e
    obtain ⟨ns, h1, e⟩ := e
    cases ra with
    | cons r1 r2 =>
      cases r2
      obtain ⟨a, rfl, h2⟩ := lstI_at m r1 h1
      split at e
      · cases e
      · rename_i i rest
        cases e
        refine cr_max hc pins s σ H _ us Q I r ⟨a, _, rfl, SqL.of h2, by simp, fun k hk hle => ?_⟩
        have : k = mostI i rest := by
          obtain ⟨k1, k2⟩ := mostI_mem rest i
          have a1 := hle _ k1
          have a2 := k2 _ hk
          omega
        rw [this]
        exact end_same m (.int _) q
  · rename_i x
    rw [Option.bind_eq_some_iff] at e
    obtain ⟨ns, h1, e⟩ := e
    cases ra with
    | cons r1 r2 =>
      cases r2
      obtain ⟨a, rfl, h2⟩ := lstI_at m r1 h1
      split at e
      · cases e
      · rename_i i rest
        cases e
        refine cr_min hc pins s σ H _ us Q I r ⟨a, _, rfl, SqL.of h2, by simp, fun k hk hle => ?_⟩
        have : k = leastI i rest := by
          obtain ⟨k1, k2⟩ := leastI_mem rest i
          have a1 := hle _ k1
          have a2 := k2 _ hk
          omega
        rw [this]
        exact end_same m (.int _) q
  · rename_i x
    rw [Option.map_eq_some_iff] at e
    obtain ⟨ns, h1, rfl⟩ := e
    cases ra with
    | cons r1 r2 =>
      cases r2
      obtain ⟨a, rfl, h2⟩ := lstI_at m r1 h1
      exact cr_sum hc pins s σ H _ us Q I r ⟨a, _, rfl, SqL.of h2, end_same m (.int _) q⟩
  · rename_i x
    rw [Option.map_eq_some_iff] at e
    obtain ⟨ns, h1, rfl⟩ := e
    cases ra with
    | cons r1 r2 =>
      cases r2
      obtain ⟨a, rfl, h2⟩ := lstB_at m r1 h1
      exact cr_all hc pins s σ H _ us Q I r ⟨a, _, rfl, SqL.of h2, end_same m (.bl _) q⟩
  · rename_i x
    rw [Option.map_eq_some_iff] at e
    obtain ⟨ns, h1, rfl⟩ := e
    cases ra with
    | cons r1 r2 =>
      cases r2
      obtain ⟨a, rfl, h2⟩ := lstB_at m r1 h1
      exact cr_any hc pins s σ H _ us Q I r ⟨a, _, rfl, SqL.of h2, end_same m (.bl _) q⟩
  · rename_i x n
    rw [Option.bind_eq_some_iff] at e
    obtain ⟨t, h1, e⟩ := e
    rw [Option.map_eq_some_iff] at e
    obtain ⟨k, h2, rfl⟩ := e
    cases ra with
    | cons r1 r2 =>
      cases r2 with
      | cons r3 r4 =>
        cases r4
        cases r3
        exact call_isiN pins s σ H _ us Q I r ⟨_, _, _, _, k, rfl, .ty n, tyS_ty m r1 h1, isiS_kit (tyS_in h1) h2, end_same m (.bl _) q⟩
  · cases ra with
    | cons r1 r2 =>
      cases r2
      cases r1
      cases e
      obtain ⟨u, rfl, ru⟩ := vals1 r
      cases ru
      exact PySem.P.repr_of_bool ⟨.str _, H, I.tok _, ⟨_, rfl⟩, end_same m (.str _) q⟩
  · cases ra with
    | cons r1 r2 =>
      cases r2
      cases e
      obtain ⟨p, ys, rfl, sq, rr⟩ := r1.sqT
      exact call_tupleT pins s σ H _ us Q I r ⟨p, ys, rfl, sq, end_same m r1 q⟩
  · rename_i x _
    rw [Option.map_eq_some_iff] at e
    obtain ⟨l, h1, rfl⟩ := e
    cases ra with
    | cons r1 r2 =>
      cases r2
      obtain ⟨a, ys, rfl, h2, h3⟩ := lstOf_at m r1 h1
      exact call_tuple_of pins s σ H _ us Q I r ⟨a, ys, rfl, .inl ⟨SqL.of h2, fun p hp => end_tup m hp h3 q⟩⟩
  · cases e
/-! ### methods -/
def idOf : Mth → String
  | .append => "list.append" | .extend => "list.extend" | .count => "list.count" | .index => "list.index" | .insert => "list.insert"
theorem eqV_int (i j : Int) : eqV (.int i) (.int j) = (i == j) := rfl
theorem idxOf_spec : ∀ {k : Int} {l : List Int} {j : Nat}, idxOf k l = some j → l[j]? = some k ∧ ∀ m z, m < j → l[m]? = some z → z ≠ k
  | k, [], j, h => by cases h
  | k, x :: r, j, h => by
    unfold idxOf at h
    split at h
    · rename_i e
      cases h
      exact ⟨by rw [e]; rfl, fun m z hm => absurd hm (Nat.not_lt_zero _)⟩
    · rename_i e
      rw [Option.map_eq_some_iff] at h
      obtain ⟨j', h, rfl⟩ := h
      obtain ⟨h1, h2⟩ := idxOf_spec h
      refine ⟨by simpa using h1, fun m z hm hz => ?_⟩
      cases m with
      | zero =>
        simp at hz
        rw [← hz]
        exact e
      | succ m => exact h2 m z (by omega) (by simpa using hz)
theorem or_mth (mm : Mth) : MtR X (idOf mm) (rMt X.K fun M x vs => mthS M mm x vs) := by
  intro pins s σ H x xs v us Q I rx r h
  obtain ⟨φ, M, a, as, d, M', m, ra, rs, e, q⟩ := h
  replace e : mthS M mm a as = some (d, M') := e
  unfold mthS at e
  split at e
  · rename_i n w
    cases rs with
    | @cons _ w' _ _ r1 r2 =>
      cases r2
      cases ra with
      | @ref _ a h1 =>
        split at e
        · rename_i l hl
          split at e
          · rename_i hz
            cases e
            cases m.at_ n a _ h1 hl with
            | @lst _ ys _ h2 rr =>
              have ex : Ext φ H φ (upd H a (.lst (ys ++ [w']))) := Ext.set (M := M) h1
              refine mt_append pins s σ H _ _ v us Q I rx r ⟨a, ys, _, rfl, rfl, h2, by rw [← rr.length]; exact hz, ?_⟩
              exact q _ _ _ ex (m.set h1 (.lst upd_same (Reps.ext ex _ _ (rr.append (.cons r1 .nil))))) .non
          · cases e
        · cases e
  · rename_i n w
    cases rs with
    | cons r1 r2 =>
      cases r2
      cases ra with
      | @ref _ a h1 =>
        cases r1 with
        | @lst b zs _ k1 k2 k3 =>
          split at e
          · rename_i l hl
            split at e
            · rename_i hz
              cases e
              cases m.at_ n a _ h1 hl with
              | @lst _ ys _ h2 rr =>
                have ex : Ext φ H φ (upd H a (.lst (ys ++ zs))) := Ext.set (M := M) h1
                refine mt_extend pins s σ H _ _ v us Q I rx r ⟨a, b, ys, zs, rfl, rfl, h2, k1, by rw [← rr.length, ← k3.length]; exact hz, ?_⟩
                exact q _ _ _ ex (m.set h1 (.lst upd_same (Reps.ext ex _ _ (rr.append k3)))) .non
            · cases e
          · cases e
  · rename_i y k
    rw [Option.map_eq_some_iff] at e
    obtain ⟨ns, h1, e⟩ := e
    cases e
    cases rs with
    | cons r1 r2 =>
      cases r2
      cases r1
      obtain ⟨p, rfl, h2⟩ := lstI_at m ra h1
      exact mt_lcount pins s σ H _ _ v us Q I rx r ⟨p, ns, k, rfl, rfl, SqL.of h2, end_same m (.int _) q⟩
  · rename_i y k
    rw [Option.bind_eq_some_iff] at e
    obtain ⟨ns, h1, e⟩ := e
    rw [Option.map_eq_some_iff] at e
    obtain ⟨j, h3, e⟩ := e
    cases e
    cases rs with
    | cons r1 r2 =>
      cases r2
      cases r1
      obtain ⟨p, rfl, h2⟩ := lstI_at m ra h1
      obtain ⟨g1, g2⟩ := idxOf_spec h3
      refine mt_index pins s σ H _ _ v us Q I rx r ⟨p, _, _, j, .int k, rfl, rfl, SqL.of h2, rfl, ?_, ?_, ?_, fun m' z' hm hz => ?_, end_same m (.int _) q⟩
      · rw [List.all_eq_true]
        intro z hz
        rw [List.mem_map] at hz
        obtain ⟨w, _, rfl⟩ := hz
        rfl
      · rw [List.getElem?_map, g1]
        rfl
      · rw [eqV_int]
        exact beq_self_eq_true k
      · rw [List.getElem?_map, Option.map_eq_some_iff] at hz
        obtain ⟨w, hw, rfl⟩ := hz
        rw [eqV_int]
        exact beq_eq_false_iff_ne.mpr (g2 m' w hm hw)
  · rename_i n i w
    cases rs with
    | cons r0 rs =>
      cases r0
      cases rs with
      | @cons _ w' _ _ r1 r2 =>
        cases r2
        cases ra with
        | @ref _ a h1 =>
          split at e
          · rename_i l hl
            split at e
            · rename_i hz
              obtain ⟨hz, h0, h63⟩ := hz
              cases e
              cases m.at_ n a _ h1 hl with
              | @lst _ ys _ h2 rr =>
                have ex : Ext φ H φ (upd H a (.lst (ys.take i.toNat ++ [w'] ++ ys.drop i.toNat))) := Ext.set (M := M) h1
                refine mt_insert pins s σ H _ _ v us Q I rx r ⟨a, ys, i, w', rfl, rfl, h2, by rw [← rr.length]; exact hz, h0, h63, ?_⟩
                exact q _ _ _ ex (m.set h1 (.lst upd_same (Reps.ext ex _ _ (((rr.take _).append (.cons r1 .nil)).append (rr.drop _))))) .non
            · cases e
          · cases e
  · cases e
end
end MP
/-! MiniPy 6: expressions. -/
namespace MP
open PySem PySem.Spec PyProof.Rows L2
variable [TabC]

theorem imp_PE {X : Cx} {e : Expr} {t t' : TE} (h : PE X e t) (i : ∀ σ H Q, t' σ H Q → t σ H Q) : PE X e t' := ⟨fun pins s σ H Q I q => h.run pins s σ H Q I (i σ H Q q)⟩
theorem imp_PT {X : Cx} {e : Expr} {t t' : TT} (h : PT X e t) (i : ∀ σ H Q, t' σ H Q → t σ H Q) : PT X e t' := ⟨fun pins s σ H Q I q => h.run pins s σ H Q I (i σ H Q q)⟩
theorem imp_PW {X : Cx} {e : Expr} {t t' : TT} (h : PW X e t) (i : ∀ σ H Q, t' σ H Q → t σ H Q) : PW X e t' := ⟨fun w pins s σ H Q I q => h.run w pins s σ H Q I (i σ H Q q)⟩
theorem imp_PA {X : Cx} {e : List Expr} {t t' : TA} (h : PA X e t) (i : ∀ σ H Q, t' σ H Q → t σ H Q) : PA X e t' := ⟨fun p pins s σ H Q I q => h.run p pins s σ H Q I (i σ H Q q)⟩
theorem imp_PO {X : Cx} {e : Option Expr} {t t' : TO} (h : PO X e t) (i : ∀ σ H Q, t' σ H Q → t σ H Q) : PO X e t' := ⟨fun pins s σ H Q I q => h.run pins s σ H Q I (i σ H Q q)⟩
theorem imp_PI {X : Cx} {tg e : Expr} {t t' : TI} (h : PI X tg e t) (i : ∀ σ H Q, t' σ H Q → t σ H Q) : PI X tg e t' := ⟨fun pins s σ H Q I q => h.run pins s σ H Q I (i σ H Q q)⟩
theorem imp_PS {X : Cx} {e : Stmt} {t t' : TS} (h : PS X e t) (i : ∀ D σ H, t' D σ H → t D σ H) : PS X e t' := ⟨fun pins s σ H D I q => h.run pins s σ H D I (i D σ H q)⟩
theorem imp_PSs {X : Cx} {e : List Stmt} {t t' : TS} (h : PSs X e t) (i : ∀ D σ H, t' D σ H → t D σ H) : PSs X e t' := ⟨fun pins s σ H D I q => h.run pins s σ H D I (i D σ H q)⟩

section
variable {K : PySem.W.Frag} {W : WX} {cl : Cl} {σ : L2.St} {H : Hp}
theorem tE_eq {m m' : Lo → List D → R D} {Q : VK} (e : ∀ L M, m L M = m' L M) (h : tE K W m σ H Q) : tE K W m' σ H Q := by
  rw [← show m = m' from funext fun L => funext fun M => e L M]
  exact h
/-- one value behind another -/
theorem use1 {ma : E} {f : List D → D → R D} {Q : VK} {t : V → Hp → VK → Prop} (h : tE K W (fun L M => (evE cl ma L M).bind fun x M1 => f M1 x) σ H Q)
    (ht : ∀ φ M a x H1, MH K φ H1 M → Rep K φ H1 a x → PR K W σ φ H1 (f M a) (fun d _ φ' H' => ∀ v, Rep K φ' H' d v → Q v H') → t x H1 Q) : tE K W (evE cl ma) σ H fun x H1 => t x H1 Q := by
  obtain ⟨L, φ, M, lr, mh, p⟩ := h
  exact tE_use lr mh p.bind fun d M' φ' H' v e m g r => ht φ' M' d v H' m r g
theorem use2 {ma mb : E} {f : List D → D → D → Option D} {Q : VK} (h : tE K W (fun L M => (evE cl ma L M).bind fun x M1 => (evE cl mb L M1).bind fun y M2 => ofO (f M2 x y) M2) σ H Q) :
    tOp (rO K f) (tE K W (evE cl ma)) (tE K W (evE cl mb)) σ H Q := by
  obtain ⟨L, φ, M, lr, mh, p⟩ := h
  refine tE_use lr mh p.bind fun x M1 φ1 H1 vx e1 m1 p1 r1 => ?_
  refine tE_use (lr.ext e1) m1 p1.bind fun y M2 φ2 H2 vy e2 m2 p2 r2 => ?_
  cases hd : f M2 x y with
  | none => rw [hd] at p2; exact False.elim p2
  | some d =>
    rw [hd] at p2
    exact ⟨φ2, M2, x, y, d, m2, Rep.ext e2 _ _ r1, r2, hd, fun φ' H' v e m r => p2 φ' H' e m v r⟩
end

section
variable {X : Cx} {W : WX} {cl : Cl} {a b c : Expr} {ma mb mc : E} {pos : Pos}
theorem me_var {i : Nat} {x : Str} (hN : X.N[i]? = some x) (hv : Vis X.env.scope x) (hd : (x == ("__debug__" : Str)) = false) (hcd : (x == ("__classdict__" : Str)) = false) : PE X (.Name x pos) (tE X.K W (evE cl (.var i))) := by
  refine imp_PE (pe_var hN hv hd hcd) fun σ H Q h => ?_
  obtain ⟨L, φ, M, lr, mh, p⟩ := h
  simp only [evE] at p
  split at p
  · rename_i d hd
    obtain ⟨v, h1, h2⟩ := lr.at_ i d hd
    exact ⟨v, h1, p.here mh v h2⟩
  · exact False.elim p
theorem me_lit {e : Expr} {d : D} {v : V} (h : PE X e (tC v)) (hr : ∀ φ H, Rep X.K φ H d v) : PE X e (tE X.K W (evE cl (.lit d))) := by
  refine imp_PE h fun σ H Q h => ?_
  obtain ⟨L, φ, M, lr, mh, p⟩ := h
  simp only [evE] at p
  exact p.here mh v (hr φ H)
theorem me_int {i : Int} {k : Nat} : PE X (.Constant (.int i) k pos) (tE X.K W (evE cl (.lit (.int i)))) := me_lit pe_int fun _ _ => .int i
theorem me_bl {i : Bool} {k : Nat} : PE X (.Constant (.bool i) k pos) (tE X.K W (evE cl (.lit (.bl i)))) := me_lit pe_bl fun _ _ => .bl i
theorem me_non {k : Nat} : PE X (.Constant .none k pos) (tE X.K W (evE cl (.lit .non))) := me_lit pe_non fun _ _ => .non
theorem me_str {x : Str} {k : Nat} : PE X (.Constant (.str x) k pos) (tE X.K W (evE cl (.lit (.str x)))) := me_lit pe_str fun _ _ => .str x
theorem me_ty {x : Str} {n : String} (hg : Gl X x) (hm : X.mg x = none) (hv : bootBuiltins x = some (.type n)) (hn : x ≠ "__name__") (hd : (x == ("__debug__" : Str)) = false) : PE X (.Name x pos) (tE X.K W (evE cl (.lit (.ty n)))) :=
  me_lit (pe_bltn (v := .ty n) hg hm hv rfl hn hd) fun _ _ => .ty n
theorem me_glob {x : Str} {d : D} {v : V} {u : Value} (hg : Gl X x) (hm : X.mg x = some u) (r : RelV v u) (hr : ∀ φ H, Rep X.K φ H d v) (hd : (x == ("__debug__" : Str)) = false) : PE X (.Name x pos) (tE X.K W (evE cl (.lit d))) :=
  me_lit (pe_glob hg hm r hd) hr
theorem me_bin {o : Bop} (ha : PE X a (tE X.K W (evE cl ma))) (hb : PE X b (tE X.K W (evE cl mb))) : PE X (.BinOp a (opOf o) b pos) (tE X.K W (evE cl (.bin o ma mb))) :=
  imp_PE (pe_op (or_bin o) ha hb) fun σ H Q h => use2 (tE_eq (fun L M => rfl) h)
theorem me_neg (ha : PE X a (tE X.K W (evE cl ma))) : PE X (.UnaryOp .USub a pos) (tE X.K W (evE cl (.neg ma))) := by
  refine imp_PE (pe_un un_neg ha) fun σ H Q h => ?_
  refine use1 (f := fun M1 x => match x with | .int i => .ok (.int (-i)) M1 | _ => .bad) (tE_eq (fun L M => rfl) h) fun φ M d x H1 m r p => ?_
  cases r with
  | int i => exact ⟨i, rfl, p.here m _ (.int _)⟩
  | _ => exact False.elim p
theorem me_cmp {o : Cop} (hu : X.A.units + 64 < cLine) (ha : PE X a (tE X.K W (evE cl ma))) (hb : PE X b (tE X.K W (evE cl mb))) (hm : behindInMarks (cpOf o) b = false) : PE X (.Compare a [cpOf o] [b] pos) (tE X.K W (evE cl (.cmp o ma mb))) :=
  imp_PE (pe_cmpR (or_cmp hu o) ha hb hm) fun σ H Q h => use2 (tE_eq (fun L M => rfl) h)
theorem me_isN (ha : PE X a (tE X.K W (evE cl ma))) {j : Nat} {pos' : Pos} : PE X (.Compare a [.Is] [.Constant .none j pos'] pos) (tE X.K W (evE cl (.isN false ma))) := by
  refine imp_PE (pe_cmp (pc_isN ha) (nobehind _ (by decide) (by decide))) fun σ H Q h => ?_
  refine use1 (f := fun M1 x => .ok (.bl (false != (match x with | .non => true | _ => false))) M1) (tE_eq (fun L M => rfl) h) (t := fun x H1 Q => Q (.bl (decide (x = .non))) H1) fun φ M d x H1 m r p => ?_
  have q := p.here m
  cases r <;> exact q _ (.bl _)
theorem me_isnN (ha : PE X a (tE X.K W (evE cl ma))) {j : Nat} {pos' : Pos} : PE X (.Compare a [.IsNot] [.Constant .none j pos'] pos) (tE X.K W (evE cl (.isN true ma))) := by
  refine imp_PE (pe_cmp (pc_notN ha) (nobehind _ (by decide) (by decide))) fun σ H Q h => ?_
  refine use1 (f := fun M1 x => .ok (.bl (true != (match x with | .non => true | _ => false))) M1) (tE_eq (fun L M => rfl) h) (t := fun x H1 Q => Q (.bl (!decide (x = .non))) H1) fun φ M d x H1 m r p => ?_
  have q := p.here m
  cases r <;> exact q _ (.bl _)
theorem chain_use {o o' : Cop} {σ : L2.St} {H : Hp} {Q : VK} (h : tE X.K W (evE cl (.chain o o' ma mb mc)) σ H Q) : tChain (rO X.K fun M x y => (cmpS M o x y).map .bl) (rO X.K fun M x y => (cmpS M o' x y).map .bl) (tE X.K W (evE cl ma)) (tE X.K W (evE cl mb)) (tE X.K W (evE cl mc)) σ H Q := by
  obtain ⟨L, φ, M, lr, mh, p⟩ := h
  refine tE_use lr mh (PR.bind (show PR X.K W σ φ H ((evE cl ma L M).bind fun x M1 => (evE cl mb L M1).bind fun y M2 => (ofO (cmpS M2 o x y) M2).bind fun k M2 =>
      if k then (evE cl mc L M2).bind fun z M3 => ofO ((cmpS M3 o' y z).map D.bl) M3 else .ok (D.bl false) M2) _ from p)) fun x M1 φ1 H1 vx e1 m1 p1 r1 => ?_
  refine tE_use (lr.ext e1) m1 p1.bind fun y M2 φ2 H2 vy e2 m2 p2 r2 => ?_
  cases hd : cmpS M2 o x y with
  | none => rw [hd] at p2; exact False.elim p2
  | some k =>
    rw [hd] at p2
    replace p2 := show PR X.K W σ φ2 H2 (if k then (evE cl mc L M2).bind fun z M3 => ofO ((cmpS M3 o' y z).map D.bl) M3 else .ok (D.bl false) M2) _ from p2
    refine ⟨φ2, M2, x, y, .bl k, m2, Rep.ext e2 _ _ r1, r2, by show Option.map D.bl (cmpS M2 o x y) = _; rw [hd]; rfl, fun φ3 H3 v e3 m3 r3 => ?_⟩
    cases r3
    refine ⟨k, rfl, ?_⟩
    cases k with
    | false =>
      rw [if_neg Bool.false_ne_true] at p2 ⊢
      exact (p2.ext e3).here m3 _ (.bl _)
    | true =>
      rw [if_pos rfl] at p2 ⊢
      refine tE_use ((lr.ext e1).ext (e2.trans e3)) m3 (p2.ext e3).bind fun z M4 φ4 H4 vz e4 m4 p4 r4 => ?_
      cases hd' : cmpS M4 o' y z with
      | none => rw [hd'] at p4; exact False.elim p4
      | some k' =>
        rw [hd'] at p4
        exact ⟨φ4, M4, y, z, .bl k', m4, Rep.ext (e3.trans e4) _ _ r2, r4, by show Option.map D.bl (cmpS M4 o' y z) = _; rw [hd']; rfl, fun φ' H' v e m r => p4 φ' H' e m v r⟩
theorem me_chain {o o' : Cop} (hu : X.A.units + 64 < cLine) (ha : PE X a (tE X.K W (evE cl ma))) (hb : PE X b (tE X.K W (evE cl mb))) (hc : PE X c (tE X.K W (evE cl mc)))
    (hm : lastMarks [cpOf o, cpOf o'] [b, c] = false) : PE X (.Compare a [cpOf o, cpOf o'] [b, c] pos) (tE X.K W (evE cl (.chain o o' ma mb mc))) :=
  imp_PE (pe_chain (or_cmp hu o) (or_cmp hu o') ha hb hc hm) fun σ H Q h => chain_use h

/-! ### tests -/
theorem mt_val (ha : PE X a (tE X.K W (evE cl ma))) (he : ∀ whole, isTrue a X.env whole = (do let v ← whole; standAt a.pos; holding [v] (truthy v))) : PT X a (tT X.K W (evE cl ma)) := by
  refine imp_PT (pt_truth ha he) fun σ H Q h => ?_
  obtain ⟨L, φ, M, lr, mh, p⟩ := h
  refine tE_use lr mh p fun d M' φ' H' v e m g r => ?_
  obtain ⟨k, h1, h2⟩ := g
  exact ⟨k, tru_rep m r h1, h2⟩
/-- a bool's reading as a test -/
theorem bool_test {m : Lo → List D → R D} {σ : L2.St} {H : Hp} {Q : Bool → Hp → Prop} {t : TE} (ht : ∀ σ H Q, tE X.K W m σ H Q → t σ H Q) (hb : ∀ L M d M', m L M = .ok d M' → ∃ b, d = .bl b) (h : tT X.K W m σ H Q) : t σ H fun x H1 => ∃ k, x = .bl k ∧ Q k H1 := by
  obtain ⟨L, φ, M, lr, mh, p⟩ := h
  refine ht σ H _ ⟨L, φ, M, lr, mh, ?_⟩
  cases hm : m L M with
  | bad => rw [hm] at p; exact p
  | exc c e M' => rw [hm] at p; exact p
  | ok d M' =>
    rw [hm] at p
    obtain ⟨b, rfl⟩ := hb L M d M' hm
    intro φ' H' e m' v r
    obtain ⟨k, h1, h2⟩ := p φ' H' e m'
    cases r
    simp [truth, cont] at h1
    subst h1
    exact ⟨_, rfl, h2⟩
theorem bind_inv {α β : Type} {r : R α} {f : α → List D → R β} {d : β} {M' : List D} (h : r.bind f = .ok d M') : ∃ a M1, r = .ok a M1 ∧ f a M1 = .ok d M' := by
  cases r with
  | ok a M1 => exact ⟨a, M1, rfl, h⟩
  | exc c e M1 => cases h
  | bad => cases h
theorem ofO_inv {α : Type} {o : Option α} {M M' : List D} {d : α} (h : ofO o M = .ok d M') : o = some d ∧ M' = M := by
  cases o with
  | none => cases h
  | some a => cases h; exact ⟨rfl, rfl⟩
theorem mt_cmp {o : Cop} (hu : X.A.units + 64 < cLine) (ha : PE X a (tE X.K W (evE cl ma))) (hb : PE X b (tE X.K W (evE cl mb))) (hm : behindInMarks (cpOf o) b = false) : PT X (.Compare a [cpOf o] [b] pos) (tT X.K W (evE cl (.cmp o ma mb))) := by
  refine imp_PT (pt_cmpR (or_cmp hu o) ha hb hm) fun σ H Q h => ?_
  refine bool_test (m := evE cl (.cmp o ma mb)) (fun σ H Q h => use2 (tE_eq (fun L M => rfl) h)) (fun L M d M' h => ?_) h
  obtain ⟨x, M1, _, h⟩ := bind_inv (show (evE cl ma L M).bind _ = _ from h)
  obtain ⟨y, M2, _, h⟩ := bind_inv h
  obtain ⟨h, _⟩ := ofO_inv h
  rw [Option.map_eq_some_iff] at h
  obtain ⟨k, _, rfl⟩ := h
  exact ⟨k, rfl⟩
theorem mt_isN (ha : PE X a (tE X.K W (evE cl ma))) {j : Nat} {pos' : Pos} : PT X (.Compare a [.Is] [.Constant .none j pos'] pos) (tT X.K W (evE cl (.isN false ma))) := by
  refine imp_PT (pt_cmp (pc_isN ha) (nobehind _ (by decide) (by decide))) fun σ H Q h => ?_
  refine bool_test (m := evE cl (.isN false ma)) (fun σ H Q h => ?_) (fun L M d M' h => ?_) h
  · refine use1 (f := fun M1 x => .ok (.bl (false != (match x with | .non => true | _ => false))) M1) (tE_eq (fun L M => rfl) h) (t := fun x H1 Q => Q (.bl (decide (x = .non))) H1) fun φ M d x H1 m r p => ?_
    have q := p.here m
    cases r <;> exact q _ (.bl _)
  · obtain ⟨x, M1, _, h⟩ := bind_inv (show (evE cl ma L M).bind _ = _ from h)
    cases h
    exact ⟨_, rfl⟩
theorem mt_isnN (ha : PE X a (tE X.K W (evE cl ma))) {j : Nat} {pos' : Pos} : PT X (.Compare a [.IsNot] [.Constant .none j pos'] pos) (tT X.K W (evE cl (.isN true ma))) := by
  refine imp_PT (pt_cmp (pc_notN ha) (nobehind _ (by decide) (by decide))) fun σ H Q h => ?_
  refine bool_test (m := evE cl (.isN true ma)) (fun σ H Q h => ?_) (fun L M d M' h => ?_) h
  · refine use1 (f := fun M1 x => .ok (.bl (true != (match x with | .non => true | _ => false))) M1) (tE_eq (fun L M => rfl) h) (t := fun x H1 Q => Q (.bl (!decide (x = .non))) H1) fun φ M d x H1 m r p => ?_
    have q := p.here m
    cases r <;> exact q _ (.bl _)
  · obtain ⟨x, M1, _, h⟩ := bind_inv (show (evE cl ma L M).bind _ = _ from h)
    cases h
    exact ⟨_, rfl⟩
theorem mt_tru (ha : PE X a (tE X.K W (evE cl ma))) (he : ∀ whole, isTrue a X.env whole = (do let v ← whole; standAt a.pos; holding [v] (truthy v))) : PT X a (tT X.K W (evE cl (.tru ma))) := by
  refine imp_PT (mt_val ha he) fun σ H Q h => ?_
  obtain ⟨L, φ, M, lr, mh, p⟩ := h
  refine tT_use lr mh (PR.bind (show PR X.K W σ φ H ((evE cl ma L M).bind fun x M1 => (ofO (truth M1 x) M1).bind fun k M1 => .ok (D.bl k) M1) _ from p)) fun d M' φ' H' e m g => ?_
  cases hk : truth M' d with
  | none => rw [hk] at g; exact False.elim g
  | some k =>
    rw [hk] at g
    obtain ⟨k', h1, h2⟩ := (show PR X.K W σ φ' H' (.ok (D.bl k) M') _ from g).here m
    cases h1
    exact ⟨k, rfl, h2⟩
theorem mt_chain {o o' : Cop} (hu : X.A.units + 64 < cLine) (ha : PE X a (tE X.K W (evE cl ma))) (hb : PE X b (tE X.K W (evE cl mb))) (hc : PE X c (tE X.K W (evE cl mc)))
    (hm : lastMarks [cpOf o, cpOf o'] [b, c] = false) : PT X (.Compare a [cpOf o, cpOf o'] [b, c] pos) (tT X.K W (evE cl (.chain o o' ma mb mc))) := by
  refine imp_PT (pt_chain (or_cmp hu o) (or_cmp hu o') ha hb hc hm) fun σ H Q h => ?_
  refine bool_test (m := evE cl (.chain o o' ma mb mc)) (fun σ H Q h => chain_use h) (fun L M d M' h => ?_) h
  obtain ⟨x, M1, _, h⟩ := bind_inv (show (evE cl ma L M).bind _ = _ from h)
  obtain ⟨y, M2, _, h⟩ := bind_inv h
  obtain ⟨k, M3, h0, h⟩ := bind_inv h
  cases k with
  | true =>
    rw [if_pos rfl] at h
    obtain ⟨z, M4, _, h⟩ := bind_inv h
    obtain ⟨h, _⟩ := ofO_inv h
    rw [Option.map_eq_some_iff] at h
    obtain ⟨k, _, rfl⟩ := h
    exact ⟨k, rfl⟩
  | false =>
    rw [if_neg Bool.false_ne_true] at h
    cases h
    exact ⟨_, rfl⟩
theorem mt_not (ha : PT X a (tT X.K W (evE cl ma))) : PT X (.UnaryOp .Not a pos) (tT X.K W (evE cl (.notE ma))) := by
  refine imp_PT (pt_not ha) fun σ H Q h => ?_
  obtain ⟨L, φ, M, lr, mh, p⟩ := h
  refine tT_use lr mh (PR.bind (show PR X.K W σ φ H ((evE cl ma L M).bind fun x M1 => match x with | .bl b => .ok (D.bl (!b)) M1 | _ => .bad) _ from p)) fun d M' φ' H' e m g => ?_
  cases d <;> first | exact False.elim g | skip
  obtain ⟨k, h1, h2⟩ := g.here m
  simp [truth, cont] at h1
  subst h1
  refine ⟨_, rfl, ?_⟩
  rw [Bool.not_not]
  exact h2
theorem mw_and1 (ha : PT X a (tT X.K W (evE cl ma))) : PW X (.BoolOp .And [a] pos) (tT X.K W (evE cl ma)) := pw_and1 ha
theorem mw_or1 (ha : PT X a (tT X.K W (evE cl ma))) : PW X (.BoolOp .Or [a] pos) (tT X.K W (evE cl ma)) := pw_or1 ha
theorem mw_and {rest : List Expr} (ha : PT X a (tT X.K W (evE cl ma))) (hb : PW X (.BoolOp .And (b :: rest) pos) (tT X.K W (evE cl mb))) : PW X (.BoolOp .And (a :: b :: rest) pos) (tT X.K W (evE cl (.andE ma mb))) := by
  refine imp_PW (pw_and ha hb) fun σ H Q h => ?_
  obtain ⟨L, φ, M, lr, mh, p⟩ := h
  refine tT_use lr mh (PR.bind (show PR X.K W σ φ H ((evE cl ma L M).bind fun x M1 => match x with | .bl true => evE cl mb L M1 | .bl false => .ok (D.bl false) M1 | _ => .bad) _ from p)) fun d M' φ' H' e m g => ?_
  cases d <;> first | exact False.elim g | skip
  rename_i k
  refine ⟨k, rfl, ?_⟩
  cases k with
  | true => exact ⟨L, φ', M', lr.ext e, m, g⟩
  | false =>
    obtain ⟨k, h1, h2⟩ := g.here m
    simp [truth, cont] at h1
    subst h1
    exact h2
theorem mw_or {rest : List Expr} (ha : PT X a (tT X.K W (evE cl ma))) (hb : PW X (.BoolOp .Or (b :: rest) pos) (tT X.K W (evE cl mb))) : PW X (.BoolOp .Or (a :: b :: rest) pos) (tT X.K W (evE cl (.orE ma mb))) := by
  refine imp_PW (pw_or ha hb) fun σ H Q h => ?_
  obtain ⟨L, φ, M, lr, mh, p⟩ := h
  refine tT_use lr mh (PR.bind (show PR X.K W σ φ H ((evE cl ma L M).bind fun x M1 => match x with | .bl false => evE cl mb L M1 | .bl true => .ok (D.bl true) M1 | _ => .bad) _ from p)) fun d M' φ' H' e m g => ?_
  cases d <;> first | exact False.elim g | skip
  rename_i k
  refine ⟨k, rfl, ?_⟩
  cases k with
  | false => exact ⟨L, φ', M', lr.ext e, m, g⟩
  | true =>
    obtain ⟨k, h1, h2⟩ := g.here m
    simp [truth, cont] at h1
    subst h1
    exact h2
/-! ### the same as values -/
theorem me_not (ha : PE X a (tE X.K W (evE cl ma))) : PE X (.UnaryOp .Not a pos) (tE X.K W (evE cl (.notE ma))) := by
  refine imp_PE (pe_not ha) fun σ H Q h => ?_
  refine use1 (f := fun M1 x => match x with | .bl b => .ok (.bl (!b)) M1 | _ => .bad) (tE_eq (fun L M => rfl) h) (t := fun x H1 Q => ∃ c, x = .bl c ∧ Q (.bl (!c)) H1) fun φ M d x H1 m r p => ?_
  cases r with
  | bl b => exact ⟨b, rfl, p.here m _ (.bl _)⟩
  | _ => exact False.elim p
theorem me_one {op : PySem.BoolOp} (ha : PE X a (tE X.K W (evE cl ma))) : PE X (.BoolOp op [a] pos) (tE X.K W (evE cl ma)) := pe_one ha
theorem me_and {rest : List Expr} (ha : PE X a (tE X.K W (evE cl ma))) (hb : PE X (.BoolOp .And (b :: rest) pos) (tE X.K W (evE cl mb))) : PE X (.BoolOp .And (a :: b :: rest) pos) (tE X.K W (evE cl (.andE ma mb))) := by
  refine imp_PE (pe_and ha hb) fun σ H Q h => ?_
  obtain ⟨L, φ, M, lr, mh, p⟩ := h
  refine tE_use lr mh (PR.bind (show PR X.K W σ φ H ((evE cl ma L M).bind fun x M1 => match x with | .bl true => evE cl mb L M1 | .bl false => .ok (D.bl false) M1 | _ => .bad) _ from p)) fun d M' φ' H' v e m g r => ?_
  cases d <;> first | exact False.elim g | skip
  cases r
  rename_i k
  refine ⟨k, rfl, ?_⟩
  cases k with
  | true => exact ⟨L, φ', M', lr.ext e, m, g⟩
  | false => exact g.here m _ (.bl _)
theorem me_or {rest : List Expr} (ha : PE X a (tE X.K W (evE cl ma))) (hb : PE X (.BoolOp .Or (b :: rest) pos) (tE X.K W (evE cl mb))) : PE X (.BoolOp .Or (a :: b :: rest) pos) (tE X.K W (evE cl (.orE ma mb))) := by
  refine imp_PE (pe_or ha hb) fun σ H Q h => ?_
  obtain ⟨L, φ, M, lr, mh, p⟩ := h
  refine tE_use lr mh (PR.bind (show PR X.K W σ φ H ((evE cl ma L M).bind fun x M1 => match x with | .bl false => evE cl mb L M1 | .bl true => .ok (D.bl true) M1 | _ => .bad) _ from p)) fun d M' φ' H' v e m g r => ?_
  cases d <;> first | exact False.elim g | skip
  cases r
  rename_i k
  refine ⟨k, rfl, ?_⟩
  cases k with
  | false => exact ⟨L, φ', M', lr.ext e, m, g⟩
  | true => exact g.here m _ (.bl _)
theorem me_ite (hc : PT X c (tT X.K W (evE cl mc))) (ha : PE X a (tE X.K W (evE cl ma))) (hb : PE X b (tE X.K W (evE cl mb))) : PE X (.IfExp c a b pos) (tE X.K W (evE cl (.ite mc ma mb))) := by
  refine imp_PE (pe_ifExp hc ha hb) fun σ H Q h => ?_
  obtain ⟨L, φ, M, lr, mh, p⟩ := h
  refine tT_use lr mh (PR.bind (show PR X.K W σ φ H ((evE cl mc L M).bind fun x M1 => (ofO (truth M1 x) M1).bind fun k M1 => if k then evE cl ma L M1 else evE cl mb L M1) _ from p)) fun d M' φ' H' e m g => ?_
  cases hk : truth M' d with
  | none => rw [hk] at g; exact False.elim g
  | some k =>
    rw [hk] at g
    refine ⟨k, rfl, ?_⟩
    replace g := show PR X.K W σ φ' H' (if k then evE cl ma L M' else evE cl mb L M') _ from g
    cases k with
    | true => exact ⟨L, φ', M', lr.ext e, m, g⟩
    | false => exact ⟨L, φ', M', lr.ext e, m, g⟩
end
end MP
/-! MiniPy 7: argument lists, displays, new objects, calls of built-ins and methods. -/
namespace MP
open PySem PySem.Spec PyProof.Rows L2
variable [TabC]

section
variable {X : Cx} {W : WX} {cl : Cl} {a b c : Expr} {ma mb mc : E} {pos : Pos} {es : List Expr} {ms : Es}
theorem ma_nil : PA X [] (tEs X.K W (evEs cl .nil)) := by
  refine imp_PA pa_nil fun σ H Q h => ?_
  obtain ⟨L, φ, M, lr, mh, p⟩ := h
  exact (show PR X.K W σ φ H (.ok [] M) _ from p).here mh _ .nil
theorem ma_cons (ha : PE X a (tE X.K W (evE cl ma))) (hr : PA X es (tEs X.K W (evEs cl ms))) (hs : starEach (a :: es) X.env = (false, eval a X.env) :: starEach es X.env) : PA X (a :: es) (tEs X.K W (evEs cl (.cons ma ms))) := by
  refine imp_PA (pa_cons ha hr hs) fun σ H Q h => ?_
  obtain ⟨L, φ, M, lr, mh, p⟩ := h
  refine tE_use lr mh (PR.bind (show PR X.K W σ φ H ((evE cl ma L M).bind fun v M1 => (evEs cl ms L M1).bind fun vs M2 => .ok (v :: vs) M2) _ from p)) fun d M1 φ1 H1 v e1 m1 g1 r1 => ?_
  refine tEs_use (lr.ext e1) m1 g1.bind fun ds M2 φ2 H2 vs e2 m2 g2 r2 => ?_
  exact g2.here m2 _ (.cons (Rep.ext e2 _ _ r1) r2)
theorem me_tup {k : Nat} (ha : PA X es (tEs X.K W (evEs cl ms))) : PE X (.Tuple es k pos) (tE X.K W (evE cl (.tup ms))) := by
  refine imp_PE (pe_tup ha) fun σ H Q h => ?_
  obtain ⟨L, φ, M, lr, mh, p⟩ := h
  refine tEs_use lr mh (PR.bind (show PR X.K W σ φ H ((evEs cl ms L M).bind fun vs M1 => if vs.length ≤ lim then .ok (D.tup vs) M1 else .bad) _ from p)) fun ds M1 φ1 H1 vs e1 m1 g1 r1 => ?_
  split at g1
  · rename_i hz
    rw [r1.length] at hz
    exact ⟨hz, fun p hp => end_tup m1 hp r1 fun φ' H' v e m r => g1 φ' H' e m v r⟩
  · exact False.elim g1

/-! ### new objects: the raw reading -/
/-- what makes a new object of this content -/
inductive ObjIs (K : PySem.W.Frag) (φ : Ph) (H : Hp) : D → Addr → HO → Prop
  | lst {p : Addr} {l : List D} {xs : List V} : Reps K φ H l xs → ObjIs K φ H (.lst l) p (.lst xs)
  | dct {p : Addr} {o : Obj} {es : Array DictEntry} {ep e : Nat} {l : List (D × D)} {vs : List (V × V)} : RawD p o es ep → (e = 0 ∨ e = ep + 1) → EntsOk l vs es.toList → RepP K φ H l vs → ObjIs K φ H (.dct e l) p (exO p o)
def tN (K : PySem.W.Frag) (W : WX) (m : Lo → List D → R D) : TE := fun σ H Q => ∃ L φ M, LR K φ H L σ ∧ MH K φ H M ∧ PR K W σ φ H (m L M) fun d M' φ' H' => ∀ o p, ObjIs K φ' H' d p o → H' p = none → Q (.ref p) (upd H' p o)
theorem tN_eq {K : PySem.W.Frag} {σ : L2.St} {H : Hp} {m m' : Lo → List D → R D} {Q : VK} (e : ∀ L M, m L M = m' L M) (h : tN K W m σ H Q) : tN K W m' σ H Q := by
  rw [← show m = m' from funext fun L => funext fun M => e L M]
  exact h
theorem me_new {e : Expr} {n : N} (h : PE X e (tN X.K W (evN cl n))) {fr : Bool} : PE X e (tE X.K W (evE cl (.new fr n))) := by
  refine imp_PE h fun σ H Q h => ?_
  obtain ⟨L, φ, M, lr, mh, p⟩ := h
  refine ⟨L, φ, M, lr, mh, ?_⟩
  refine (PR.bind (show PR X.K W σ φ H ((evN cl n L M).bind fun d M1 => if fr then .ok d M1 else .ok (D.ref M1.length) (M1 ++ [d])) _ from p)).mono fun d M1 φ1 H1 e1 m1 g o q ob hp => ?_
  cases fr with
  | true =>
    rw [if_pos rfl] at g
    refine g φ1 _ (Ext.new hp) (m1.new hp) _ ?_
    cases ob with
    | lst r => exact .lst upd_same (m1.notin hp) (Reps.ext (Ext.new hp) _ _ r)
    | dct h1 _ h3 h4 => exact .dct upd_same (m1.notin hp) h1 h3 (RepP.ext (Ext.new hp) _ _ h4)
  | false =>
    rw [if_neg Bool.false_ne_true] at g
    have ob' : ObjAt X.K (φ1.more q) (upd H1 q o) d q := by
      cases ob with
      | lst r => exact .lst upd_same (Reps.ext (Ext.alloc hp) _ _ r)
      | dct h1 h2 h3 h4 => exact .dct upd_same h1 h2 h3 (RepP.ext (Ext.alloc hp) _ _ h4)
    refine g (φ1.more q) _ (Ext.alloc hp) (m1.alloc hp ob') _ (.ref ?_)
    · rw [← m1.len, List.getElem?_append_right (Nat.le_refl _), Nat.sub_self]
      rfl
/-- a + b, two lists -/
theorem mn_cat {a b : Expr} {ma mb : E} (ha : PE X a (tE X.K W (evE cl ma))) (hb : PE X b (tE X.K W (evE cl mb))) : PE X (.BinOp a .Add b pos) (tN X.K W (evN cl (.cat ma mb))) := by
  refine imp_PE (pe_op op_cat ha hb) fun σ H Q h => ?_
  obtain ⟨L, φ, M, lr, mh, p⟩ := h
  refine tE_use lr mh (PR.bind (show PR X.K W σ φ H ((evE cl ma L M).bind fun x M1 => (evE cl mb L M1).bind fun y M2 => match cont M2 x, cont M2 y with | some (.lst l), some (.lst r) => if l.length + r.length ≤ lim then .ok (D.lst (l ++ r)) M2 else .bad | _, _ => .bad) _ from p)) fun x M1 φ1 H1 v e1 m1 g1 r1 => ?_
  refine tE_use (lr.ext e1) m1 g1.bind fun y M2 φ2 H2 u e2 m2 g2 r2 => ?_
  replace r1 := Rep.ext e2 _ _ r1
  split at g2
  · rename_i l r c1 c2
    split at g2
    · rename_i hz
      obtain ⟨p1, xs1, rfl, s1, k1⟩ := lst_at m2 r1 c1
      obtain ⟨p2, xs2, rfl, s2, k2⟩ := lst_at m2 r2 c2
      rw [k1.length, k2.length] at hz
      exact ⟨p1, p2, xs1, xs2, rfl, rfl, s1, s2, hz, fun p hp => g2.here m2 _ p (.lst (k1.append k2)) hp⟩
    · exact False.elim g2
  · exact False.elim g2
theorem mn_disp (ha : PA X es (tEs X.K W (evEs cl ms))) : PE X (.List es pos) (tN X.K W (evN cl (.disp ms))) := by
  refine imp_PE (pe_lst ha) fun σ H Q h => ?_
  obtain ⟨L, φ, M, lr, mh, p⟩ := h
  refine tEs_use lr mh (PR.bind (show PR X.K W σ φ H ((evEs cl ms L M).bind fun vs M1 => if vs.length ≤ lim then .ok (D.lst vs) M1 else .bad) _ from p)) fun ds M1 φ1 H1 vs e1 m1 g1 r1 => ?_
  split at g1
  · rename_i hz
    rw [r1.length] at hz
    exact ⟨hz, fun p hp => g1.here m1 _ p (.lst r1) hp⟩
  · exact False.elim g1
/-- an empty dict -/
abbrev dict0O : Obj := { cls := .type "dict", data := .dict #[] }
def tDNewN : TE := fun _ H Q => ∀ p, H p = none → (p == sysModules) = false → Q (.ref p) (upd H p (exO p dict0O))
theorem raw0 {p : Addr} (h : (p == sysModules) = false) : RawD p dict0O #[] 0 := ⟨⟨rfl, rfl, rfl⟩, rfl, h, Nat.zero_le _⟩
theorem pe_dnewN : PE X (.Dict [] [] pos) tDNewN := ⟨fun pins s σ H Q I h =>
  wpAny_Dict_empty ⟨.ref s.heap.objs.size, _, I.laid (a := s.heap.objs.size) (o := exO s.heap.objs.size dict0O) (t' := s.toks) (fun _ _ q => Heap.get?_push_of_some _ q) (Nat.le_refl _) ⟨Heap.get?_push_size _ rfl, ⟨_, Heap.get?_push_size _ rfl⟩, fun h1 h2 f k => k _ f⟩, rfl, h _ (I.hok.fresh (Nat.le_refl _)) (beq_eq_false_iff_ne.mpr (Ne.symm (Nat.ne_of_lt I.big)))⟩⟩
theorem mn_dict0 : PE X (.Dict [] [] pos) (tN X.K W (evN cl .dict0)) := by
  refine imp_PE pe_dnewN fun σ H Q h => ?_
  obtain ⟨L, φ, M, lr, mh, p⟩ := h
  exact fun q hq hs => (show PR X.K W σ φ H (.ok (D.dct 1 []) M) _ from p).here mh _ q (.dct (vs := []) (raw0 hs) (.inr rfl) ⟨List.nodup_nil, True.intro⟩ .nil) hq

/-- the facts of a built-in's name in this context -/
structure BN (X : Cx) (x : Str) : Prop where
  gl : Gl X x
  none : X.mg x = none
theorem mn_listOf {p : Pos} (bn : BN X "list") (ha : PE X a (tE X.K W (evE cl ma))) (he : starEach [a] X.env = (false, eval a X.env) :: starEach [] X.env) : PE X (.Call (.Name "list" p) [a] [] pos) (tN X.K W (evN cl (.listOf ma))) := by
  refine imp_PE (pe_callTy call_list_of bn.gl bn.none (by decide +kernel) (pa_cons ha pa_nil he) (by decide) (by decide) he rfl) fun σ H Q h => ?_
  obtain ⟨L, φ, M, lr, mh, p⟩ := h
  refine tE_use lr mh (PR.bind (show PR X.K W σ φ H ((evE cl ma L M).bind fun x M1 => match cont M1 x with | some (.lst l) => .ok (D.lst l) M1 | some (.tup l) => .ok (.lst l) M1 | some (.scr l) => .ok (.lst l) M1 | _ => .bad) _ from p)) fun d M1 φ1 H1 v e1 m1 g1 r1 => ?_
  show ∃ p ys, [v] = [V.ref p] ∧ (SqL X.K H1 p ys ∨ SqT X.K H1 p ys) ∧ ∀ l, H1 l = none → Q (.ref l) (upd H1 l (.lst ys))
  split at g1
  · rename_i l hl
    obtain ⟨q, ys, rfl, sq, r⟩ := lst_at m1 r1 hl
    exact ⟨q, ys, rfl, .inl (SqL.of sq), fun l hl => g1.here m1 _ l (.lst r) hl⟩
  · rename_i l hl
    cases tup_at m1 r1 hl
    obtain ⟨q, ys, rfl, sq, r⟩ := r1.sqT
    exact ⟨q, ys, rfl, .inr sq, fun l hl => g1.here m1 _ l (.lst r) hl⟩
  · rename_i l hl
    cases scr_at m1 r1 hl
    cases r1 with
    | scr h1 r => exact ⟨_, _, rfl, .inl h1.sq, fun l hl => g1.here m1 _ l (.lst r) hl⟩
  · exact False.elim g1
theorem reps_rg {K : PySem.W.Frag} {φ : Ph} {H : Hp} (i j : Int) : Reps K φ H (rgL i j) (rgV i j) := by
  unfold rgL rgV
  generalize List.range (j - i).toNat = l
  induction l with
  | nil => exact .nil
  | cons k r ih => exact .cons (.int _) ih
theorem rgOk_is {i j : Int} (h : (rgOk i j && decide ((j - i).toNat ≤ 2 ^ 24)) = true) : RgOk i j := by
  unfold rgOk at h
  simp only [Bool.and_eq_true, decide_eq_true_eq] at h
  exact ⟨h.1.1, h.1.2.1, h.1.2.2.1, h.1.2.2.2, h.2⟩
/-- list(range(a, b)) -/
theorem mn_listRg2 {p p2 pos2 : Pos} (hc : X.calm = true) (bn : BN X "list") (bn2 : BN X "range") (ha : PE X a (tE X.K W (evE cl ma))) (hb : PE X b (tE X.K W (evE cl mb)))
    (he : starEach [.Call (.Name "range" p2) [a, b] [] pos2] X.env = (false, eval (.Call (.Name "range" p2) [a, b] [] pos2) X.env) :: starEach [] X.env) (he2 : starEach [a, b] X.env = (false, eval a X.env) :: starEach [b] X.env) (he3 : starEach [b] X.env = (false, eval b X.env) :: starEach [] X.env) :
    PE X (.Call (.Name "list" p) [.Call (.Name "range" p2) [a, b] [] pos2] [] pos) (tN X.K W (evN cl (.listRg ma mb))) := by
  refine imp_PE (pe_listRg hc bn.gl bn.none (prg_2 bn2.gl bn2.none ha hb he2 he3 (by rw [he3]; rfl)) he) fun σ H Q h => ?_
  obtain ⟨L, φ, M, lr, mh, p⟩ := h
  refine tE_use lr mh (PR.bind (show PR X.K W σ φ H ((evE cl ma L M).bind fun x M1 => (evE cl mb L M1).bind fun y M2 => match x, y with | .int i, .int j => if rgOk i j && decide ((j - i).toNat ≤ 2 ^ 24) then .ok (D.lst (rgL i j)) M2 else .bad | _, _ => .bad) _ from p)) fun d M1 φ1 H1 v e1 m1 g1 r1 => ?_
  refine tE_use (lr.ext e1) m1 g1.bind fun d2 M2 φ2 H2 v2 e2 m2 g2 r2 => ?_
  split at g2
  · cases r1
    cases r2
    split at g2
    · rename_i hk
      exact ⟨_, _, rfl, rfl, rgOk_is hk, fun q hq => g2.here m2 _ q (.lst (reps_rg _ _)) hq⟩
    · exact False.elim g2
  · exact False.elim g2
theorem mn_listRg1 {p p2 pos2 : Pos} (hc : X.calm = true) (bn : BN X "list") (bn2 : BN X "range") (ha : PE X a (tE X.K W (evE cl ma)))
    (he : starEach [.Call (.Name "range" p2) [a] [] pos2] X.env = (false, eval (.Call (.Name "range" p2) [a] [] pos2) X.env) :: starEach [] X.env) (he2 : starEach [a] X.env = (false, eval a X.env) :: starEach [] X.env) :
    PE X (.Call (.Name "list" p) [.Call (.Name "range" p2) [a] [] pos2] [] pos) (tN X.K W (evN cl (.listRg (.lit (.int 0)) ma))) := by
  refine imp_PE (pe_listRg hc bn.gl bn.none (prg_1 bn2.gl bn2.none ha he2) he) fun σ H Q h => ?_
  obtain ⟨L, φ, M, lr, mh, p⟩ := h
  refine tE_use lr mh (PR.bind (show PR X.K W σ φ H ((evE cl ma L M).bind fun y M2 => match D.int 0, y with | .int i, .int j => if rgOk i j && decide ((j - i).toNat ≤ 2 ^ 24) then .ok (D.lst (rgL i j)) M2 else .bad | _, _ => .bad) _ from p)) fun d2 M2 φ2 H2 v2 e2 m2 g2 r2 => ?_
  cases d2 with
  | int j =>
    cases r2
    by_cases hk : (rgOk 0 j && decide ((j - 0).toNat ≤ 2 ^ 24)) = true
    · replace g2 := show PR X.K W σ φ2 H2 (if rgOk 0 j && decide ((j - 0).toNat ≤ 2 ^ 24) then .ok (D.lst (rgL 0 j)) M2 else .bad) _ from g2
      rw [if_pos hk] at g2
      exact ⟨_, rfl, rgOk_is hk, fun q hq => g2.here m2 _ q (.lst (reps_rg _ _)) hq⟩
    · replace g2 := show PR X.K W σ φ2 H2 (if rgOk 0 j && decide ((j - 0).toNat ≤ 2 ^ 24) then .ok (D.lst (rgL 0 j)) M2 else .bad) _ from g2
      rw [if_neg hk] at g2
      exact False.elim g2
  | _ => exact False.elim g2
end

/-! ### sorted: of a list or of a tuple of ints -/
section
variable {prog : Program} {w : World} {A : Around} {E : Value → Shared → Prop} {s : Shared}
theorem collect_tuple {l : Addr} {vs : List Value} {Q : List Value → Shared → Prop} (hl : IsTup s.heap l vs.toArray)
    (h : Q vs { s with heap := (s.heap.push (seqObj "list" #[] 0)).update s.heap.objs.size (Obj.mapSeq (· ++ vs.toArray)) }) (hsz : vs.length ≤ sizeLine) :
    wpAny (model prog w) A (collect (.ref l)) Q E s := by
  obtain ⟨o, ho, hc, n, hd⟩ := id hl
  unfold collect
  refine wpAny_bind (wpAny_runValue (codeAny_builtin entry_proto_collect' ?_))
  show wpAny _ _ (do again (.builtin "list.__iadd__" ⟨[← newList [], .ref l], []⟩)) _ _ s
  refine wpAny_bind (wpAny_newList (wpAny_pure ⟨Code.quiet_builtin _ (by decide +kernel), codeAny_builtin entry_list_iadd' ?_⟩))
  show wpAny _ _ (Builtin.List.listExtendWith (.ref s.heap.objs.size) (.ref l) (.ref s.heap.objs.size)) _ _ { s with heap := s.heap.push (seqObj "list" #[] 0) }
  unfold Builtin.List.listExtendWith
  have ho' : (s.heap.push (seqObj "list" #[] 0)).get? l = some o := Heap.get?_push_of_some _ ho
  refine wpAny_bind (wpAny_typeOf (T := "tuple") ⟨o, ho', hc⟩ ?_)
  have ht : (Value.type "tuple" == Value.type "tuple") = true := by rfl
  rw [if_pos (by rw [ht]; simp)]
  refine wpAny_bind (listItems_at ho' hd ?_)
  refine wpAny_bind (listItems_at (xs := #[]) (n := 0) (Heap.get?_push_size _ rfl) rfl ?_)
  rw [if_neg (by simp)]
  refine wpAny_bind (listUpdate_at (xs := #[]) (n := 0) (Heap.get?_push_size _ rfl) rfl ?_ (Nat.zero_le _) (by show (#[] ++ vs.toArray).size ≤ sizeLine + 1; simp only [Array.size_append, List.size_toArray, List.length_nil]; omega))
  refine wpAny_pure ?_
  show wpAny (model prog w) A (do
      let o ← load s.heap.objs.size
      match o.data with
      | .seq xs _ => pure xs.toList
      | _ => unsupported "internal:collect") Q E { s with heap := (s.heap.push (seqObj "list" #[] 0)).update s.heap.objs.size (Obj.mapSeq (· ++ vs.toArray)) }
  refine wpAny_bind (wpAny_load (get?_update_seq (Heap.get?_push_size _ rfl) _) ?_)
  show wpAny _ _ (pure ((#[] : Array Value) ++ vs.toArray).toList) Q E _
  rw [show ((#[] : Array Value) ++ vs.toArray).toList = vs by simp]
  exact wpAny_pure h
open SrtO in
theorem sorted_ordT {l : Addr} {vs : List Value} {ltv : Value → Value → Bool} {Q : Value → Shared → Prop} (O : Swo ltv) (hl : IsTup s.heap l vs.toArray) (hz : vs.length ≤ sizeLine)
    (hS : 2 ≤ vs.length → ∀ (h₁ : Heap) (a : Addr), h₁.get? a = some (seqObj "list" vs.toArray 0) → (∀ b o, s.heap.get? b = some o → b ≠ a ∧ h₁.get? b = some o) → SortableO prog w A.in1.in1 { s with heap := h₁ } a vs ltv)
    (h : ∀ out : List Value, Srtd ltv out → Stb ltv out vs → Q (.ref (s.heap.objs.size + 1)) { s with heap := sortedAll s.heap vs out.toArray }) :
    wpAny (model prog w) A (call (.builtin "sorted") [.ref l]) Q E s := by
  refine Calls.call_function_entry kind_sorted plain_sorted entry_sorted (args_sorted1 _) ?_
  unfold Builtin.«sorted»
  refine wpAny_bind (m := checkCount "sorted" 1 1 _) (wpAny_pure ?_)
  refine wpAny_bind (collect_tuple hl ?_ hz)
  refine wpAny_bind (wpAny_newList ?_ hz)
  have hsz : ((s.heap.push (seqObj "list" #[] 0)).update s.heap.objs.size (Obj.mapSeq (· ++ vs.toArray))).objs.size = s.heap.objs.size + 1 := by
    rw [Heap.size_update, size_push']
  have hoL : (((s.heap.push (seqObj "list" #[] 0)).update s.heap.objs.size (Obj.mapSeq (· ++ vs.toArray))).push (seqObj "list" vs.toArray 0)).get? (s.heap.objs.size + 1) = some (seqObj "list" vs.toArray 0) := by
    rw [← hsz]; exact Heap.get?_push_size _ rfl
  have keep : ∀ b o, s.heap.get? b = some o → b ≠ s.heap.objs.size + 1 ∧ (((s.heap.push (seqObj "list" #[] 0)).update s.heap.objs.size (Obj.mapSeq (· ++ vs.toArray))).push (seqObj "list" vs.toArray 0)).get? b = some o := fun b o q => by
    have hlt : b < s.heap.objs.size := Heap.lt_size q
    refine ⟨Nat.ne_of_lt (Nat.lt_succ_of_lt hlt), Heap.get?_push_of_some _ ?_⟩
    rw [Heap.get?_update_ne _ _ _ _ (Nat.ne_of_lt hlt)]
    exact Heap.get?_push_of_some _ q
  show wpAny _ _ _ _ _ { s with heap := ((s.heap.push (seqObj "list" #[] 0)).update s.heap.objs.size (Obj.mapSeq (· ++ vs.toArray))).push (seqObj "list" vs.toArray 0) }
  rw [hsz]
  refine wpAny_bind (wpAny_holding (wpAny_call_entry slot_list_sort ⟨_, hoL, rfl⟩ entry_list_sort (list_sort_ord O hoL hz (fun h2 => hS h2 _ _ hoL keep) fun out hs hb => ⟨_, rfl, ?_⟩) (args_list_sort _)))
  exact wpAny_pure ⟨_, rfl, h out hs hb⟩
end
section
variable {X : Cx}
theorem cr_sortedT (X : Cx) : CallR X (.builtin "sorted") (fun vs H Q => ∃ (a : Addr) (ns : List Int), vs = [V.ref a] ∧ SqT X.K H a (ns.map V.int) ∧
  ∀ (ns' : List Int) (p : Addr), ns'.Perm ns → ns'.Pairwise (· ≤ ·) → H p = none → Q (.ref p) (upd H p (.lst (ns'.map V.int)))) := by
  intro pins s σ H vs us Q I r h
  obtain ⟨a, ns, rfl, hs, q⟩ := h
  obtain ⟨its, rv, hl, hz⟩ := I.tuple hs
  rw [Vals.ref1 r]
  have hi := rv.ints
  refine sorted_ordT SrtO.swo_int hl (by rw [← rv.length]; exact hz) (fun h2 h₁ a' _ _ => SrtO.ints_sortable hi h2) fun out h1 h2 => ?_
  obtain ⟨k1, k2, k3⟩ := SrtO.ints_out hi h1 h2
  obtain ⟨ep, he'⟩ := PyProof.Rows.sortedAll_at s.heap its out.toArray
  have hlen : ((out.map SrtO.iv).map V.int).length ≤ sizeLine := by
    rw [List.length_map, k2.length_eq]
    rw [List.length_map] at hz
    exact hz
  exact ⟨.ref _, upd H (s.heap.objs.size + 1) (.lst ((out.map SrtO.iv).map V.int)), I.laid (t' := s.toks) (fun _ _ => PyProof.Rows.sortedAll_old) (Nat.le_succ _) ⟨hlen, out, ep, vals_of_ints k1, he'⟩, rfl, q _ _ k2 k3 (I.hok.fresh (Nat.le_succ _))⟩
end
theorem sortI_is {ns ns' : List Int} (h1 : ns'.Perm ns) (h2 : ns'.Pairwise (· ≤ ·)) : ns' = sortI ns := by
  rw [sortI_eq]
  have a := List.mergeSort_perm ns (fun a b => decide (a ≤ b))
  have b : (ns.mergeSort (fun a b => decide (a ≤ b))).Pairwise (fun a b => decide (a ≤ b) = true) := List.pairwise_mergeSort (le := fun (a b : Int) => decide (a ≤ b)) (fun a b c h h' => by simp at h h' ⊢; omega) (fun a b => by simp; omega) ns
  exact (h1.trans a.symm).eq_of_pairwise (fun x y _ _ h1 h2 => Int.le_antisymm h1 h2) h2 (b.imp fun h => by simpa using h)
section
variable {X : Cx} {W : WX} {cl : Cl} {a b c : Expr} {ma mb mc : E} {pos : Pos} {es : List Expr} {ms : Es}
theorem mn_sorted {p : Pos} (bn : BN X "sorted") (ha : PE X a (tE X.K W (evE cl ma))) (he : starEach [a] X.env = (false, eval a X.env) :: starEach [] X.env) : PE X (.Call (.Name "sorted" p) [a] [] pos) (tN X.K W (evN cl (.sorted ma))) := by
  refine imp_PE (pe_callB (cr_sortedI.or (cr_sortedT X)) bn.gl bn.none (by decide +kernel) (pa_cons ha pa_nil he) (by decide) (by decide) he rfl) fun σ H Q h => ?_
  obtain ⟨L, φ, M, lr, mh, p⟩ := h
  refine tE_use lr mh (PR.bind (show PR X.K W σ φ H ((evE cl ma L M).bind fun x M1 => match cont M1 x with
      | some (.lst l) => ofO ((allInts l).map fun ns => D.lst ((sortI ns).map .int)) M1
      | some (.tup l) => ofO ((allInts l).map fun ns => D.lst ((sortI ns).map .int)) M1
      | _ => .bad) _ from p)) fun d M1 φ1 H1 v e1 m1 g1 r1 => ?_
  show rSortedI X.K [v] H1 Q ∨ _
  split at g1
  · rename_i l hl
    obtain ⟨q, ys, rfl, sq, r⟩ := lst_at m1 r1 hl
    cases hn : allInts l with
    | none => rw [hn] at g1; exact False.elim g1
    | some ns =>
      rw [hn] at g1
      rw [(r.ints hn).1] at sq
      refine .inl ⟨q, ns, rfl, SqL.of sq, fun ns' p h1 h2 hp => ?_⟩
      rw [sortI_is h1 h2]
      exact (show PR X.K W σ φ1 H1 (.ok (D.lst ((sortI ns).map .int)) M1) _ from g1).here m1 _ p (.lst (reps_ints _)) hp
  · rename_i l hl
    cases tup_at m1 r1 hl
    obtain ⟨q, ys, rfl, sq, r⟩ := r1.sqT
    cases hn : allInts l with
    | none => rw [hn] at g1; exact False.elim g1
    | some ns =>
      rw [hn] at g1
      rw [(r.ints hn).1] at sq
      refine .inr ⟨q, ns, rfl, sq, fun ns' p h1 h2 hp => ?_⟩
      rw [sortI_is h1 h2]
      exact (show PR X.K W σ φ1 H1 (.ok (D.lst ((sortI ns).map .int)) M1) _ from g1).here m1 _ p (.lst (reps_ints _)) hp
  · exact False.elim g1

/-! ### calls of built-ins, methods, subscripts, slices -/
def nmOf : Blt → Str
  | .len => "len" | .abs => "abs" | .int => "int" | .max => "max" | .min => "min" | .sum => "sum" | .all => "all" | .any => "any" | .isinst => "isinstance" | .repr => "repr" | .tuple => "tuple"
theorem use_blt {f : Blt} {σ : L2.St} {H : Hp} {Q : VK} (h : tE X.K W (evE cl (.blt f ms)) σ H Q) : tCB (rC X.K fun M vs => bltS M f vs) (tEs X.K W (evEs cl ms)) σ H Q := by
  obtain ⟨L, φ, M, lr, mh, p⟩ := h
  refine tEs_use lr mh (PR.bind (show PR X.K W σ φ H ((evEs cl ms L M).bind fun vs M1 => ofO (bltS M1 f vs) M1) _ from p)) fun ds M1 φ1 H1 vs e1 m1 g1 r1 => ?_
  cases hd : bltS M1 f ds with
  | none => rw [hd] at g1; exact False.elim g1
  | some d =>
    rw [hd] at g1
    exact ⟨φ1, M1, ds, d, m1, r1, hd, fun φ' H' v e m r => g1 φ' H' e m v r⟩
theorem me_blt {f : Blt} {p : Pos} (hc : X.calm = true) (bn : BN X (nmOf f)) (ha : PA X (a :: es) (tEs X.K W (evEs cl ms))) (he : starEach (a :: es) X.env = (false, eval a X.env) :: starEach es X.env) (hpl : (backTo pos (starEach es X.env)).any (·.1) = false) :
    PE X (.Call (.Name (nmOf f) p) (a :: es) [] pos) (tE X.K W (evE cl (.blt f ms))) := by
  cases f with
  | int => exact imp_PE (pe_callTy (or_blt hc .int) bn.gl bn.none (by decide +kernel) ha (by decide) (by decide) he hpl) fun σ H Q h => use_blt h
  | tuple => exact imp_PE (pe_callTy (or_blt hc .tuple) bn.gl bn.none (by decide +kernel) ha (by decide) (by decide) he hpl) fun σ H Q h => use_blt h
  | len => exact imp_PE (pe_callB (or_blt hc .len) bn.gl bn.none (by decide +kernel) ha (by decide) (by decide) he hpl) fun σ H Q h => use_blt h
  | abs => exact imp_PE (pe_callB (or_blt hc .abs) bn.gl bn.none (by decide +kernel) ha (by decide) (by decide) he hpl) fun σ H Q h => use_blt h
  | max => exact imp_PE (pe_callB (or_blt hc .max) bn.gl bn.none (by decide +kernel) ha (by decide) (by decide) he hpl) fun σ H Q h => use_blt h
  | min => exact imp_PE (pe_callB (or_blt hc .min) bn.gl bn.none (by decide +kernel) ha (by decide) (by decide) he hpl) fun σ H Q h => use_blt h
  | sum => exact imp_PE (pe_callB (or_blt hc .sum) bn.gl bn.none (by decide +kernel) ha (by decide) (by decide) he hpl) fun σ H Q h => use_blt h
  | all => exact imp_PE (pe_callB (or_blt hc .all) bn.gl bn.none (by decide +kernel) ha (by decide) (by decide) he hpl) fun σ H Q h => use_blt h
  | any => exact imp_PE (pe_callB (or_blt hc .any) bn.gl bn.none (by decide +kernel) ha (by decide) (by decide) he hpl) fun σ H Q h => use_blt h
  | isinst => exact imp_PE (pe_callB (or_blt hc .isinst) bn.gl bn.none (by decide +kernel) ha (by decide) (by decide) he hpl) fun σ H Q h => use_blt h
  | repr => exact imp_PE (pe_callB (or_blt hc .repr) bn.gl bn.none (by decide +kernel) ha (by decide) (by decide) he hpl) fun σ H Q h => use_blt h
def mnOf : Mth → Str
  | .append => "append" | .extend => "extend" | .count => "count" | .index => "index" | .insert => "insert"
theorem use_mth {f : Mth} {σ : L2.St} {H : Hp} {Q : VK} (h : tE X.K W (evE cl (.mth f ma ms)) σ H Q) : tBM X.K "list" (rMt X.K fun M x vs => mthS M f x vs) (tE X.K W (evE cl ma)) (tEs X.K W (evEs cl ms)) σ H Q := by
  obtain ⟨L, φ, M, lr, mh, p⟩ := h
  refine tE_use lr mh (PR.bind (show PR X.K W σ φ H ((evE cl ma L M).bind fun x M1 => if mthK M1 x then (evEs cl ms L M1).bind fun vs M2 => (match mthS M2 f x vs with | some (d, M3) => .ok d M3 | none => .bad) else .bad) _ from p)) fun d M1 φ1 H1 v e1 m1 g1 r1 => ?_
  split at g1
  · rename_i hk
    unfold mthK at hk
    split at hk
    · rename_i l hl
      obtain ⟨q, ys, rfl, sq, r⟩ := lst_at m1 r1 hl
      refine ⟨.inl ⟨rfl, ys, SqL.of sq⟩, ?_⟩
      refine tEs_use (lr.ext e1) m1 g1.bind fun ds M2 φ2 H2 vs e2 m2 g2 r2 => ?_
      cases hd : mthS M2 f d ds with
      | none => rw [hd] at g2; exact False.elim g2
      | some dm =>
        obtain ⟨d', M3⟩ := dm
        rw [hd] at g2
        exact ⟨φ2, M2, d, ds, d', M3, m2, Rep.ext e2 _ _ r1, r2, hd, fun φ' H' v e m r => g2 φ' H' e m v r⟩
    · cases hk
  · exact False.elim g1
theorem me_mth {f : Mth} {apos : Pos} (ho : PE X b (tE X.K W (evE cl ma))) (ha : PA X (a :: es) (tEs X.K W (evEs cl ms))) (hbase : attributeBase b (mnOf f) X.env (eval b X.env) = eval b X.env)
    (hfew : ((backTo pos (starEach (a :: es) X.env)).all (fun x => !x.1) && (backToKw pos (keywordEach [] X.env)).all (fun x => x.1.isSome)
      && decide ((a :: es).length + ([] : List Keyword).length + (if ([] : List Keyword).isEmpty then 0 else 1) < 30)) = true)
    (hline : (apos.endLine == pos.line) = true) (he : starEach (a :: es) X.env = (false, eval a X.env) :: starEach es X.env) (hpl : (backTo pos (starEach es X.env)).any (·.1) = false) :
    PE X (.Call (.Attribute b (mnOf f) apos) (a :: es) [] pos) (tE X.K W (evE cl (.mth f ma ms))) := by
  cases f with
  | append => exact imp_PE (pe_bm PySem.F.plainAttrs_list PySem.F.slot_list_append PySem.F.type_list_append (or_mth .append) ho ha hbase hfew hline he hpl) fun σ H Q h => use_mth h
  | extend => exact imp_PE (pe_bm PySem.F.plainAttrs_list PySem.F.slot_list_extend PySem.F.type_list_extend (or_mth .extend) ho ha hbase hfew hline he hpl) fun σ H Q h => use_mth h
  | count => exact imp_PE (pe_bm PySem.F.plainAttrs_list PySem.F.slot_list_count PySem.F.type_list_count (or_mth .count) ho ha hbase hfew hline he hpl) fun σ H Q h => use_mth h
  | index => exact imp_PE (pe_bm PySem.F.plainAttrs_list PySem.F.slot_list_index PySem.F.type_list_index (or_mth .index) ho ha hbase hfew hline he hpl) fun σ H Q h => use_mth h
  | insert => exact imp_PE (pe_bm PySem.F.plainAttrs_list PySem.F.slot_list_insert PySem.F.type_list_insert (or_mth .insert) ho ha hbase hfew hline he hpl) fun σ H Q h => use_mth h
theorem me_idx (hu : X.A.units + 64 < cLine) (hwd : TabC.w = X.w) (ha : PE X a (tE X.K W (evE cl ma))) (hb : PE X b (tE X.K W (evE cl mb))) (hs : PlainIx b) : PE X (.Subscript a b pos) (tE X.K W (evE cl (.idx ma mb))) :=
  imp_PE (pe_ix (or_idx hu hwd) ha hb hs) fun σ H Q h => use2 (tE_eq (fun L M => rfl) h)
/-- a slice's part -/
def tP (K : PySem.W.Frag) (W : WX) (m : Lo → List D → R (Option Int)) : TO := fun σ H Q => ∃ L φ M, LR K φ H L σ ∧ MH K φ H M ∧ PR K W σ φ H (m L M) fun o M' φ' H' => Q o H'
theorem mp_none : PO X none (tP X.K W (evP cl .nil)) := by
  refine imp_PO po_none fun σ H Q h => ?_
  obtain ⟨L, φ, M, lr, mh, p⟩ := h
  exact (show PR X.K W σ φ H (.ok (none : Option Int) M) _ from p).here mh
theorem mp_some (ha : PE X a (tE X.K W (evE cl ma))) : PO X (some a) (tP X.K W (evP cl (.cons ma .nil))) := by
  refine imp_PO (po_some ha) fun σ H Q h => ?_
  obtain ⟨L, φ, M, lr, mh, p⟩ := h
  refine tE_use lr mh (PR.bind (show PR X.K W σ φ H ((evE cl ma L M).bind fun d M1 => match d with | .int i => .ok (some i) M1 | _ => .bad) _ from p)) fun d M1 φ1 H1 v e1 m1 g1 r1 => ?_
  cases d <;> first | exact False.elim g1 | skip
  cases r1
  exact ⟨_, rfl, g1.here m1⟩
theorem me_slc {lo hi : Option Expr} {ml mh' : Es} {p2 : Pos} (ha : PE X a (tE X.K W (evE cl ma))) (hl : PO X lo (tP X.K W (evP cl ml))) (hh : PO X hi (tP X.K W (evP cl mh'))) : PE X (.Subscript a (.Slice lo hi none p2) pos) (tE X.K W (evE cl (.slc ma ml mh'))) := by
  refine imp_PE (pe_slice or_slc ha hl hh) fun σ H Q h => ?_
  obtain ⟨L, φ, M, lr, mh, p⟩ := h
  refine tE_use lr mh (PR.bind (show PR X.K W σ φ H ((evE cl ma L M).bind fun x M1 => (evP cl ml L M1).bind fun u M2 => (evP cl mh' L M2).bind fun v M3 => ofO (slcS M3 x u v) M3) _ from p)) fun d M1 φ1 H1 v e1 m1 g1 r1 => ?_
  refine ⟨L, φ1, M1, lr.ext e1, m1, g1.bind.mono fun u M2 φ2 H2 e2 m2 g2 => ?_⟩
  refine ⟨L, φ2, M2, (lr.ext e1).ext e2, m2, g2.bind.mono fun w M3 φ3 H3 e3 m3 g3 => ?_⟩
  cases hd : slcS M3 d u w with
  | none => rw [hd] at g3; exact False.elim g3
  | some d' =>
    rw [hd] at g3
    exact ⟨φ3, M3, d, d', m3, Rep.ext (e2.trans e3) _ _ r1, hd, fun φ' H' v e m r => g3 φ' H' e m v r⟩
theorem Reps.rev {K : PySem.W.Frag} {φ : Ph} {H : Hp} : ∀ {l : List D} {vs : List V}, Reps K φ H l vs → Reps K φ H l.reverse vs.reverse
  | [], vs, h => by
    cases h
    exact .nil
  | a :: r, vs, h => by
    cases h with
    | cons h1 h2 =>
      rw [List.reverse_cons, List.reverse_cons]
      exact (Reps.rev h2).append (.cons h1 .nil)
theorem me_rev {k : Nat} {i : Int} {p1 p2 p3 : Pos} (hi : i = 1) (ha : PE X a (tE X.K W (evE cl ma))) : PE X (.Subscript a (.Slice none none (some (.UnaryOp .USub (.Constant (.int i) k p1) p2)) p3) pos) (tE X.K W (evE cl (.rev ma))) := by
  subst hi
  refine imp_PE (pe_revA ha) fun σ H Q h => ?_
  obtain ⟨L, φ, M, lr, mh, p⟩ := h
  refine tE_use lr mh (PR.bind (show PR X.K W σ φ H ((evE cl ma L M).bind fun x M1 => ofO (revS M1 x) M1) _ from p)) fun d M1 φ1 H1 v e1 m1 g1 r1 => ?_
  cases hd : revS M1 d with
  | none => rw [hd] at g1; exact False.elim g1
  | some d' =>
    rw [hd] at g1
    have q : ∀ φ' H' v, Ext φ1 H1 φ' H' → MH X.K φ' H' M1 → Rep X.K φ' H' d' v → Q v H' := fun φ' H' v e m r => g1 φ' H' e m v r
    unfold revS at hd
    split at hd
    · rename_i l hl
      cases hd
      cases tup_at m1 r1 hl
      obtain ⟨p, xs, rfl, sq, r⟩ := r1.sqT
      exact .inr ⟨p, xs, rfl, sq, fun p hp => end_tup m1 hp r.rev q⟩
    · rename_i l hl
      cases hd
      obtain ⟨p, xs, rfl, sq, r⟩ := lst_at m1 r1 hl
      exact .inl ⟨p, xs, rfl, SqL.of sq, fun p hp => end_lst m1 hp r.rev q⟩
    · cases hd
end
end MP
/-! MiniPy 8: calls of defs, what is walked. -/
namespace MP
open PySem PySem.Spec PyProof.Rows L2
variable [TabC]

/-! ### calls of defs -/
def spG (K : PySem.W.Frag) (g : List D → List D → R D) : Sp := fun vs H Q E => ∃ φ M args, MH K φ H M ∧ Reps K φ H args vs ∧ PR K (fun c d _ H => E c d H) [] φ H (g args M) fun d _ φ' H' => ∀ v, Rep K φ' H' d v → Q v H'
section
variable {X : Cx} {W : WX} {cl : Cl} {a b c : Expr} {ma mb mc : E} {pos : Pos} {es : List Expr} {ms : Es}
theorem me_call {k n : Nat} {f : Addr} {fd : FuncData} {ps : List Str} {x : Str} {p : Pos} (F : FnOk X.prog X.w X.K X.mg X.base (L2.CX X.prog X.w) k f fd ps (spG X.K (cl.call n))) (hr : Room k X.A) (hg : Gl X x) (hm : X.mg x = some (.ref f)) (hk : PySem.W.keepIn X.K (.ref f) = true) (hb : Binds X.K fd ps [])
    (tk : Takes X W) (ha : PA X (a :: es) (tEs X.K W (evEs cl ms))) (hdb : (x == ("__debug__" : Str)) = false) (he : starEach (a :: es) X.env = (false, eval a X.env) :: starEach es X.env) (hpl : (backTo pos (starEach es X.env)).any (·.1) = false) :
    PE X (.Call (.Name x p) (a :: es) [] pos) (tE X.K W (evE cl (.call n ms))) := by
  refine imp_PE (pe_callS F hr hg hm hk hb (passAt tk) ha hdb he hpl) fun σ H Q h => ?_
  obtain ⟨L, φ, M, lr, mh, p⟩ := h
  refine tEs_use lr mh (PR.bind (show PR X.K W σ φ H ((evEs cl ms L M).bind fun vs M1 => cl.call n vs M1) _ from p)) fun ds M1 φ1 H1 vs e1 m1 g1 r1 => ?_
  refine ⟨φ1, M1, ds, m1, r1, ?_⟩
  cases hc : cl.call n ds M1 with
  | ok d M2 => rw [hc] at g1; exact g1
  | exc c e M2 => rw [hc] at g1; exact g1
  | bad => rw [hc] at g1; exact g1
end

/-! ### going on where what is barred may change -/
structure Ex1 (φ : Ph) (H : Hp) (φ' : Ph) (H' : Hp) : Prop where
  pre : ∃ t, φ.f ++ t = φ'.f
  keep : ∀ b o, H b = some o → NT o → Out φ b → H' b = some o ∧ Out φ' b
section
variable {K : PySem.W.Frag} {φ φ1 φ2 : Ph} {H H1 H2 : Hp}
theorem Ext.weak (e : Ext φ H φ1 H1) : Ex1 φ H φ1 H1 := ⟨e.pre, fun b o h nt n => e.out h nt n⟩
theorem Ex1.refl : Ex1 φ H φ H := Ext.refl.weak
theorem Ex1.trans (a : Ex1 φ H φ1 H1) (b : Ex1 φ1 H1 φ2 H2) : Ex1 φ H φ2 H2 := by
  obtain ⟨⟨t, e⟩, k⟩ := a
  obtain ⟨⟨t', e'⟩, k'⟩ := b
  refine ⟨⟨t ++ t', by rw [← e', ← e, List.append_assoc]⟩, fun x o h nt n => ?_⟩
  obtain ⟨h1, n1⟩ := k x o h nt n
  exact k' x o h1 nt n1
theorem Ex1.get (e : Ex1 φ H φ1 H1) {n : Nat} {a : Addr} (h : φ.f[n]? = some a) : φ1.f[n]? = some a := by
  obtain ⟨⟨t, e⟩, _⟩ := e
  rw [← e, List.getElem?_append_left (List.getElem?_eq_some_iff.mp h).1]
  exact h
mutual
theorem Rep.ex1 (e : Ex1 φ H φ1 H1) : ∀ (d : D) (v : V), Rep K φ H d v → Rep K φ1 H1 d v
  | .non, _, h => by cases h; exact .non
  | .bl _, _, h => by cases h; exact .bl _
  | .int _, _, h => by cases h; exact .int _
  | .str _, _, h => by cases h; exact .str _
  | .ty _, _, h => by cases h; exact .ty _
  | .fn _, _, h => by cases h with | fn h => exact .fn h
  | .tup l, _, h => by
    cases h with
    | tup h1 h2 h3 => exact .tup (e.keep _ _ h1 (fun _ z => by cases z) h2).1 (e.keep _ _ h1 (fun _ z => by cases z) h2).2 (Reps.ex1 e _ _ h3)
    | tupK h1 h2 h3 h4 h5 h6 => exact .tupK h1 h2 h3 h4 h5 (Reps.ex1 e _ _ h6)
  | .lst l, _, h => by
    cases h with
    | lst h1 h2 h3 => exact .lst (e.keep _ _ h1 (fun _ z => by cases z) h2).1 (e.keep _ _ h1 (fun _ z => by cases z) h2).2 (Reps.ex1 e _ _ h3)
  | .scr l, _, h => by
    cases h with
    | scr h1 h3 => exact .scr (h1.mp e.keep) (Reps.ex1 e _ _ h3)
  | .dct _ l, _, h => by
    cases h with
    | dct h1 h2 h3 h4 h5 => exact .dct (e.keep _ _ h1 exO_nt h2).1 (e.keep _ _ h1 exO_nt h2).2 h3 h4 (RepP.ex1 e _ _ h5)
  | .ref n, _, h => by
    cases h with
    | ref h1 => exact .ref (e.get h1)
theorem Reps.ex1 (e : Ex1 φ H φ1 H1) : ∀ (l : List D) (vs : List V), Reps K φ H l vs → Reps K φ1 H1 l vs
  | [], _, h => by cases h; exact .nil
  | d :: l, _, h => by
    cases h with
    | cons h1 h2 => exact .cons (Rep.ex1 e _ _ h1) (Reps.ex1 e _ _ h2)
theorem RepP.ex1 (e : Ex1 φ H φ1 H1) : ∀ (l : List (D × D)) (vs : List (V × V)), RepP K φ H l vs → RepP K φ1 H1 l vs
  | [], _, h => by cases h; exact .nil
  | (k, d) :: l, _, h => by
    cases h with
    | cons h1 h2 h3 => exact .cons (Rep.ex1 e _ _ h1) (Rep.ex1 e _ _ h2) (RepP.ex1 e _ _ h3)
end
theorem ObjAt.ex1 {d : D} {a : Addr} (h : ObjAt K φ H d a) (e : Ex1 φ H φ1 H1) (ha : H1 a = H a) : ObjAt K φ1 H1 d a := by
  cases h with
  | lst h1 h2 => exact .lst (ha.trans h1) (Reps.ex1 e _ _ h2)
  | dct h1 h2 h3 h4 h5 => exact .dct (ha.trans h1) h2 h3 h4 (RepP.ex1 e _ _ h5)
theorem LR.ex1 {L : Lo} {σ : L2.St} (l : LR K φ H L σ) (e : Ex1 φ H φ1 H1) : LR K φ1 H1 L σ :=
  ⟨l.len, fun i d h => let ⟨v, h1, h2⟩ := l.at_ i d h; ⟨v, h1, Rep.ex1 e _ _ h2⟩⟩

/-! ### what is walked -/
def WkIs (K : PySem.W.Frag) (φ0 : Ph) (H0 : Hp) (w : Wk) (J : It) : Prop := ∀ φ H M, Ex1 φ0 H0 φ H → MH K φ H M → w.ok M = true → ∀ i,
  (w.items.length ≤ i → J.stop i H) ∧ ∀ d, w.items[i]? = some d → J.go i H ∧ ∀ x H', J.yld i H x H' → Ext φ H φ H' ∧ MH K φ H' M ∧ Rep K φ H' d x
def tI (K : PySem.W.Frag) (W : WX) (m : Lo → List D → R Wk) : TI := fun σ H Rr => ∃ L φ M, LR K φ H L σ ∧ MH K φ H M ∧ PR K W σ φ H (m L M) fun w _ φ' H' => ∀ J, WkIs K φ' H' w J → Rr J H'
end

section
variable {X : Cx} {tg : Expr}
/-- a list or a tuple -/
def iSeq (K : PySem.W.Frag) (tl : TE) : TI := fun σ H Rr => tl σ H fun x H1 => ∃ a, x = .ref a ∧ ((∃ xs, SqL K H1 a xs ∧ Rr (Itl K a) H1) ∨ (∃ xs, SqT K H1 a xs ∧ Rr (Itt K a) H1))
theorem pi_seq {l : Expr} {tl : TE} (hl : PE X l tl) : PI X tg l (iSeq X.K tl) := by
  refine ⟨fun pins s σ H Rr I h => ?_⟩
  refine thn (hl.run pins s σ H _ I h) fun v s1 ⟨x, H1, I1, r1, q1⟩ => ?_
  obtain ⟨a, e, q1⟩ := q1
  subst e
  cases r1
  rcases q1 with ⟨xs, hq, q⟩ | ⟨xs, hq, q⟩
  · obtain ⟨its, rv, p, hz⟩ := I1.list hq
    refine wpAny_pyIter_list p.isList ?_
    refine ⟨s1.heap.objs.size, [s1.heap.objs.size], _, _, H1, rfl, I1.kept (t' := s1.toks) fun b o e => Heap.get?_push_of_some _ e, turn_list a _, ⟨_, Heap.get?_push_size _ rfl, rfl, rfl⟩, fun b hb => ?_, q⟩
    have e : b = s1.heap.objs.size := by simpa using hb
    subst e
    exact I1.fpOk (Nat.le_refl _) (I1.hok.fresh (Nat.le_refl _))
  · obtain ⟨its, rv, p, hz⟩ := I1.tuple hq
    refine wpAny_pyIter_tuple (show s1.heap.IsTuple a its.toArray from p) ?_
    refine ⟨s1.heap.objs.size, [s1.heap.objs.size], _, _, H1, rfl, I1.kept (t' := s1.toks) fun b o e => Heap.get?_push_of_some _ e, turn_tuple a _, ⟨_, Heap.get?_push_size _ rfl, rfl, rfl⟩, fun b hb => ?_, q⟩
    have e : b = s1.heap.objs.size := by simpa using hb
    subst e
    exact I1.fpOk (Nat.le_refl _) (I1.hok.fresh (Nat.le_refl _))
end

section
variable {K : PySem.W.Frag} {φ φ1 φ2 : Ph} {H H1 H2 : Hp}
theorem imp_PI' {X : Cx} {tg e : Expr} {t t' : TI} (h : PI X tg e t) (i : ∀ σ H Q, t' σ H Q → t σ H Q) : PI X tg e t' := ⟨fun pins s σ H Q I q => h.run pins s σ H Q I (i σ H Q q)⟩
/-- a list's content that stands -/
theorem wk_list {a : Addr} {l : List D} {n : Option (Nat × D)} (h : ∀ φ H M, Ex1 φ1 H1 φ H → MH K φ H M → (Wk.mk l n).ok M = true → ∃ xs, SqL K H a xs ∧ Reps K φ H l xs) : WkIs K φ1 H1 ⟨l, n⟩ (Itl K a) := by
  intro φ H M e m ok i
  obtain ⟨xs, sq, r⟩ := h φ H M e m ok
  refine ⟨fun hi => ⟨xs, sq, by rw [← r.length]; exact hi⟩, fun d hd => ?_⟩
  obtain ⟨v, h1, h2⟩ := r.get hd
  refine ⟨⟨xs, v, sq, h1⟩, fun x H' y => ?_⟩
  obtain ⟨rfl, y⟩ := y
  have ex : xs[i]? = some x := y xs sq
  rw [h1] at ex
  cases ex
  exact ⟨Ext.refl, m, h2⟩
theorem wk_tup {a : Addr} {l : List D} (h : ∀ φ H, Ex1 φ1 H1 φ H → ∃ xs, SqT K H a xs ∧ Reps K φ H l xs) : WkIs K φ1 H1 ⟨l, none⟩ (Itt K a) := by
  intro φ H M e m ok i
  obtain ⟨xs, sq, r⟩ := h φ H e
  refine ⟨fun hi => ⟨xs, sq, by rw [← r.length]; exact hi⟩, fun d hd => ?_⟩
  obtain ⟨v, h1, h2⟩ := r.get hd
  refine ⟨⟨xs, v, sq, h1⟩, fun x H' y => ?_⟩
  obtain ⟨rfl, y⟩ := y
  have ex : xs[i]? = some x := y xs sq
  rw [h1] at ex
  cases ex
  exact ⟨Ext.refl, m, h2⟩
theorem reps_int_at {l : List D} {i : Nat} {d : D} (a b : Int) (h : (rgL a b)[i]? = some d) : d = .int (a + (i : Nat)) ∧ i < (b - a).toNat := by
  unfold rgL at h
  rw [List.getElem?_map] at h
  by_cases hi : i < (b - a).toNat
  · rw [List.getElem?_range hi] at h
    cases h
    exact ⟨rfl, hi⟩
  · rw [List.getElem?_eq_none (by simpa using hi)] at h
    cases h
theorem wk_range (a b : Int) : WkIs K φ1 H1 ⟨rgL a b, none⟩ (Itr a (b - a).toNat) := by
  intro φ H M e m ok i
  refine ⟨fun hi => ?_, fun d hd => ?_⟩
  · have : (rgL a b).length = (b - a).toNat := by simp [rgL]
    show (b - a).toNat ≤ i
    rw [← this]
    exact hi
  · obtain ⟨rfl, hi⟩ := reps_int_at (l := []) a b hd
    refine ⟨hi, fun x H' y => ?_⟩
    obtain ⟨rfl, rfl⟩ := y
    exact ⟨Ext.refl, m, .int _⟩
theorem enumL_at : ∀ {l : List D} {k : Int} {i : Nat} {d : D}, (enumL k l)[i]? = some d → ∃ x, l[i]? = some x ∧ d = .tup [.int (k + (i : Nat)), x]
  | [], _, _, _, h => by simp [enumL] at h
  | x :: r, k, 0, d, h => by
    simp [enumL] at h
    subst h
    exact ⟨x, rfl, by simp⟩
  | x :: r, k, i + 1, d, h => by
    obtain ⟨y, h1, h2⟩ := enumL_at (l := r) (k := k + 1) (i := i) (by simpa [enumL] using h)
    refine ⟨y, by simpa using h1, ?_⟩
    rw [h2]
    have : k + 1 + (i : Int) = k + ((i + 1 : Nat) : Int) := by omega
    rw [this]
theorem enumL_len : ∀ (l : List D) (k : Int), (enumL k l).length = l.length
  | [], _ => rfl
  | x :: r, k => by simp [enumL, enumL_len r]
theorem zipL_at : ∀ {l r : List D} {i : Nat} {d : D}, (zipL l r)[i]? = some d → ∃ x y, l[i]? = some x ∧ r[i]? = some y ∧ d = .tup [x, y]
  | [], _, _, _, h => by simp [zipL] at h
  | _ :: _, [], _, _, h => by simp [zipL] at h
  | x :: l, y :: r, 0, d, h => by
    simp [zipL] at h
    subst h
    exact ⟨x, y, rfl, rfl, rfl⟩
  | x :: l, y :: r, i + 1, d, h => by
    obtain ⟨x', y', h1, h2, h3⟩ := zipL_at (l := l) (r := r) (i := i) (by simpa [zipL] using h)
    exact ⟨x', y', by simpa using h1, by simpa using h2, h3⟩
theorem zipL_len : ∀ {l r : List D} {i : Nat}, (zipL l r).length ≤ i → l.length ≤ i ∨ r.length ≤ i
  | [], _, _, _ => .inl (Nat.zero_le _)
  | _ :: _, [], _, _ => .inr (Nat.zero_le _)
  | x :: l, y :: r, 0, h => by simp [zipL] at h
  | x :: l, y :: r, i + 1, h => by
    have := zipL_len (l := l) (r := r) (i := i) (by simpa [zipL] using h)
    simpa using this
/-- a new pair for the walker -/
theorem pair_new {M : List D} {T : Addr} {x y : D} {v u : V} (m : MH K φ H M) (hT : H T = none) (r1 : Rep K φ H x v) (r2 : Rep K φ H y u) : Ext φ H φ (upd H T (.tup [v, u])) ∧ MH K φ (upd H T (.tup [v, u])) M ∧ Rep K φ (upd H T (.tup [v, u])) (.tup [x, y]) (.ref T) :=
  ⟨Ext.new hT, m.new hT, .tup upd_same (m.notin hT) (.cons (Rep.ext (Ext.new hT) _ _ r1) (.cons (Rep.ext (Ext.new hT) _ _ r2) .nil))⟩
theorem wk_enumL {a : Addr} {l : List D} (h : ∀ φ H, Ex1 φ1 H1 φ H → ∃ xs, SqL K H a xs ∧ Reps K φ H l xs) : WkIs K φ1 H1 ⟨enumL 0 l, none⟩ (Ite K a) := by
  intro φ H M e m ok i
  obtain ⟨xs, sq, r⟩ := h φ H e
  refine ⟨fun hi => ⟨xs, sq, ?_⟩, fun d hd => ?_⟩
  · rw [← r.length, ← enumL_len l 0]
    exact hi
  · obtain ⟨x, hx, rfl⟩ := enumL_at hd
    obtain ⟨v, h1, h2⟩ := r.get hx
    refine ⟨⟨xs, v, sq, h1⟩, fun u H' y => ?_⟩
    obtain ⟨T, w, rfl, hT, rfl, y⟩ := y
    have ex : xs[i]? = some w := y xs sq
    rw [h1] at ex
    cases ex
    have e0 : ((0 : Int) + (i : Nat)) = (i : Nat) := by omega
    rw [e0]
    exact pair_new m hT (.int _) h2
theorem wk_zipL {a b : Addr} {l k : List D} (h : ∀ φ H, Ex1 φ1 H1 φ H → ∃ xs ys, SqL K H a xs ∧ SqL K H b ys ∧ Reps K φ H l xs ∧ Reps K φ H k ys) : WkIs K φ1 H1 ⟨zipL l k, none⟩ (Itz K a b) := by
  intro φ H M e m ok i
  obtain ⟨xs, ys, s1, s2, r1, r2⟩ := h φ H e
  refine ⟨fun hi => ⟨xs, ys, s1, s2, ?_⟩, fun d hd => ?_⟩
  · rw [← r1.length, ← r2.length]
    exact zipL_len hi
  · obtain ⟨x, y, hx, hy, rfl⟩ := zipL_at hd
    obtain ⟨v, h1, h2⟩ := r1.get hx
    obtain ⟨u, h3, h4⟩ := r2.get hy
    refine ⟨⟨xs, ys, v, u, s1, s2, h1, h3⟩, fun z H' y => ?_⟩
    obtain ⟨T, w, t, rfl, hT, rfl, y1, y2⟩ := y
    have ex : xs[i]? = some w := y1 xs s1
    have ey : ys[i]? = some t := y2 ys s2
    rw [h1] at ex
    rw [h3] at ey
    cases ex
    cases ey
    exact pair_new m hT h2 h4
theorem wk_zipT {a b : Addr} {l k : List D} (h : ∀ φ H, Ex1 φ1 H1 φ H → ∃ xs ys, SqT K H a xs ∧ SqT K H b ys ∧ Reps K φ H l xs ∧ Reps K φ H k ys) : WkIs K φ1 H1 ⟨zipL l k, none⟩ (RZ.ItzT K a b) := by
  intro φ H M e m ok i
  obtain ⟨xs, ys, s1, s2, r1, r2⟩ := h φ H e
  refine ⟨fun hi => ⟨xs, ys, s1, s2, ?_⟩, fun d hd => ?_⟩
  · rw [← r1.length, ← r2.length]
    exact zipL_len hi
  · obtain ⟨x, y, hx, hy, rfl⟩ := zipL_at hd
    obtain ⟨v, h1, h2⟩ := r1.get hx
    obtain ⟨u, h3, h4⟩ := r2.get hy
    refine ⟨⟨xs, ys, v, u, s1, s2, h1, h3⟩, fun z H' y => ?_⟩
    obtain ⟨T, w, t, rfl, hT, rfl, y1, y2⟩ := y
    have ex : xs[i]? = some w := y1 xs s1
    have ey : ys[i]? = some t := y2 ys s2
    rw [h1] at ex
    rw [h3] at ey
    cases ex
    cases ey
    exact pair_new m hT h2 h4
/-! the content of a frozen one, later -/
theorem tup_later {l : List D} {a : Addr} (r : Rep K φ1 H1 (.tup l) (.ref a)) {φ : Ph} {H : Hp} (e : Ex1 φ1 H1 φ H) : ∃ xs, SqT K H a xs ∧ Reps K φ H l xs := by
  obtain ⟨b, xs, eq, sq, r'⟩ := (Rep.ex1 e _ _ r).sqT
  cases eq
  exact ⟨xs, sq, r'⟩
theorem lst_later {l : List D} {a : Addr} (r : Rep K φ1 H1 (.lst l) (.ref a)) {φ : Ph} {H : Hp} (e : Ex1 φ1 H1 φ H) : ∃ xs, SqL K H a xs ∧ Reps K φ H l xs := by
  cases Rep.ex1 e _ _ r with
  | lst h1 h2 h3 => exact ⟨_, SqL.of h1, h3⟩
theorem scr_later {l : List D} {a : Addr} (r : Rep K φ1 H1 (.scr l) (.ref a)) {φ : Ph} {H : Hp} (e : Ex1 φ1 H1 φ H) : ∃ xs, SqL K H a xs ∧ Reps K φ H l xs := by
  cases Rep.ex1 e _ _ r with
  | scr h1 h3 => exact ⟨_, h1.sq, h3⟩
end

section
variable {X : Cx} {W : WX} {cl : Cl} {a b c tg : Expr} {ma mb mc : E} {pos : Pos}
theorem mi_seq (ha : PE X a (tE X.K W (evE cl ma))) : PI X tg a (tI X.K W (evI cl (.seq ma))) := by
  refine imp_PI' (pi_seq ha) fun σ H Rr h => ?_
  obtain ⟨L, φ, M, lr, mh, p⟩ := h
  refine tE_use lr mh (PR.bind (show PR X.K W σ φ H ((evE cl ma L M).bind fun x M1 => ofO (seqS M1 x) M1) _ from p)) fun x M1 φ1 H1 v e1 m1 g1 r1 => ?_
  cases x with
  | tup l =>
    obtain ⟨q, xs, rfl, sq, r⟩ := r1.sqT
    exact ⟨q, rfl, .inr ⟨xs, sq, (show PR X.K W σ φ1 H1 (.ok (Wk.mk l none) M1) _ from g1).here m1 _ (wk_tup fun φ H e => tup_later r1 e)⟩⟩
  | lst l =>
    cases id r1 with
    | lst h1 h2 h3 => exact ⟨_, rfl, .inl ⟨_, SqL.of h1, (show PR X.K W σ φ1 H1 (.ok (Wk.mk l none) M1) _ from g1).here m1 _ (wk_list fun φ H M e _ _ => lst_later r1 e)⟩⟩
  | scr l =>
    cases id r1 with
    | scr h1 h3 => exact ⟨_, rfl, .inl ⟨_, h1.sq, (show PR X.K W σ φ1 H1 (.ok (Wk.mk l none) M1) _ from g1).here m1 _ (wk_list fun φ H M e _ _ => scr_later r1 e)⟩⟩
  | ref n =>
    replace g1 := show PR X.K W σ φ1 H1 (ofO (match M1[n]? with | some (.lst l) => some (Wk.mk l (some (n, .lst l))) | _ => none) M1) _ from g1
    split at g1
    · rename_i l hl
      obtain ⟨q, ys, rfl, sq, r⟩ := lst_at m1 r1 (show cont M1 (.ref n) = _ from hl)
      refine ⟨q, rfl, .inl ⟨ys, SqL.of sq, g1.here m1 _ (wk_list fun φ H M e m ok => ?_)⟩⟩
      unfold Wk.ok at ok
      simp only at ok
      split at ok
      · rename_i k hk
        rw [bq_eq ok] at hk
        obtain ⟨q', ys', eq, sq', r'⟩ := lst_at m (Rep.ex1 e _ _ r1) (show cont M (.ref n) = _ from hk)
        cases eq
        exact ⟨ys', SqL.of sq', r'⟩
      · cases ok
    · exact False.elim g1
  | _ => exact False.elim g1
theorem rgOk_b {i j : Int} (h : rgOk i j = true) : -(2 ^ 62) ≤ i ∧ i < 2 ^ 62 ∧ -(2 ^ 62) ≤ j ∧ j < 2 ^ 62 := by
  unfold rgOk at h
  simp only [Bool.and_eq_true, decide_eq_true_eq] at h
  exact ⟨h.1, h.2.1, h.2.2.1, h.2.2.2⟩
theorem mi_range2 {p : Pos} (bn : BN X "range") (ha : PE X a (tE X.K W (evE cl ma))) (hb : PE X b (tE X.K W (evE cl mb))) (he2 : starEach [a, b] X.env = (false, eval a X.env) :: starEach [b] X.env) (he3 : starEach [b] X.env = (false, eval b X.env) :: starEach [] X.env) :
    PI X tg (.Call (.Name "range" p) [a, b] [] pos) (tI X.K W (evI cl (.range ma mb))) := by
  refine imp_PI' (pi_range2 bn.gl bn.none (pa_cons ha (pa_cons hb pa_nil he3) he2) (by rw [he2, he3]; rfl) (by rw [he3]; rfl)) fun σ H Rr h => ?_
  obtain ⟨L, φ, M, lr, mh, p⟩ := h
  refine tE_use lr mh (PR.bind (show PR X.K W σ φ H ((evE cl ma L M).bind fun x M1 => (evE cl mb L M1).bind fun y M2 => match x, y with | .int i, .int j => if rgOk i j then .ok (Wk.mk (rgL i j) none) M2 else .bad | _, _ => .bad) _ from p)) fun d M1 φ1 H1 v e1 m1 g1 r1 => ?_
  refine tE_use (lr.ext e1) m1 g1.bind fun d2 M2 φ2 H2 v2 e2 m2 g2 r2 => ?_
  split at g2
  · cases r1
    cases r2
    split at g2
    · rename_i hk
      exact ⟨_, _, rfl, rgOk_b hk, g2.here m2 _ (wk_range _ _)⟩
    · exact False.elim g2
  · exact False.elim g2
theorem mi_range1 {p : Pos} (bn : BN X "range") (ha : PE X a (tE X.K W (evE cl ma))) (he2 : starEach [a] X.env = (false, eval a X.env) :: starEach [] X.env) :
    PI X tg (.Call (.Name "range" p) [a] [] pos) (tI X.K W (evI cl (.range (.lit (.int 0)) ma))) := by
  refine imp_PI' (pi_range1 bn.gl bn.none (pa_cons ha pa_nil he2) (by rw [he2]; rfl)) fun σ H Rr h => ?_
  obtain ⟨L, φ, M, lr, mh, p⟩ := h
  refine tE_use lr mh (PR.bind (show PR X.K W σ φ H ((evE cl ma L M).bind fun y M2 => match D.int 0, y with | .int i, .int j => if rgOk i j then .ok (Wk.mk (rgL i j) none) M2 else .bad | _, _ => .bad) _ from p)) fun d2 M2 φ2 H2 v2 e2 m2 g2 r2 => ?_
  cases d2 with
  | int j =>
    cases r2
    by_cases hk : rgOk 0 j = true
    · replace g2 := show PR X.K W σ φ2 H2 (if rgOk 0 j then .ok (Wk.mk (rgL 0 j) none) M2 else .bad) _ from g2
      rw [if_pos hk] at g2
      obtain ⟨_, _, k1, k2⟩ := rgOk_b hk
      refine ⟨j, rfl, k1, k2, ?_⟩
      have q := g2.here m2 _ (wk_range _ _)
      rw [Int.sub_zero] at q
      exact q
    · replace g2 := show PR X.K W σ φ2 H2 (if rgOk 0 j then .ok (Wk.mk (rgL 0 j) none) M2 else .bad) _ from g2
      rw [if_neg hk] at g2
      exact False.elim g2
  | _ => exact False.elim g2
theorem mi_zip {p tpos : Pos} {elts : List Expr} {kk : Nat} (bn : BN X "zip") (ha : PE X a (tE X.K W (evE cl ma))) (hb : PE X b (tE X.K W (evE cl mb))) (he2 : starEach [a, b] X.env = (false, eval a X.env) :: starEach [b] X.env) (he3 : starEach [b] X.env = (false, eval b X.env) :: starEach [] X.env) :
    PI X (.Tuple elts kk tpos) (.Call (.Name "zip" p) [a, b] [] pos) (tI X.K W (evI cl (.zip ma mb))) := by
  refine imp_PI' (RZ.pi_zipA bn.gl bn.none (pa_cons ha (pa_cons hb pa_nil he3) he2) he2 (by rw [he3]; rfl)) fun σ H Rr h => ?_
  obtain ⟨L, φ, M, lr, mh, p⟩ := h
  refine tE_use lr mh (PR.bind (show PR X.K W σ φ H ((evE cl ma L M).bind fun x M1 => (evE cl mb L M1).bind fun y M2 => match x, y with | .tup l, .tup r => .ok (Wk.mk (zipL l r) none) M2 | .lst l, .lst r => .ok (Wk.mk (zipL l r) none) M2 | _, _ => .bad) _ from p)) fun d M1 φ1 H1 v e1 m1 g1 r1 => ?_
  refine tE_use (lr.ext e1) m1 g1.bind fun d2 M2 φ2 H2 v2 e2 m2 g2 r2 => ?_
  replace r1 := Rep.ext e2 _ _ r1
  split at g2
  · obtain ⟨q, xs, rfl, sq, _⟩ := r1.sqT
    obtain ⟨q2, xs2, rfl, sq2, _⟩ := r2.sqT
    refine ⟨q, q2, xs, xs2, rfl, .inr ⟨sq, sq2, g2.here m2 _ (wk_zipT fun φ H e => ?_)⟩⟩
    obtain ⟨ys, s1, t1⟩ := tup_later r1 e
    obtain ⟨ys2, s2, t2⟩ := tup_later r2 e
    exact ⟨ys, ys2, s1, s2, t1, t2⟩
  · cases id r1 with
    | lst h1 h2 h3 =>
      cases id r2 with
      | lst k1 k2 k3 =>
        refine ⟨_, _, _, _, rfl, .inl ⟨SqL.of h1, SqL.of k1, g2.here m2 _ (wk_zipL fun φ H e => ?_)⟩⟩
        obtain ⟨ys, s1, t1⟩ := lst_later r1 e
        obtain ⟨ys2, s2, t2⟩ := lst_later r2 e
        exact ⟨ys, ys2, s1, s2, t1, t2⟩
  · exact False.elim g2
end
end MP
/-! MiniPy D4: walks over dicts: keys, values, pairs. -/
namespace MP
open PySem PySem.Spec PyProof.Rows L2
variable [TabC]
theorem relV_inj : ∀ {x y : V} {u : Value}, RelV x u → RelV y u → x = y := by
  intro x y u h1 h2
  cases x <;> cases y <;> first
    | rfl
    | (cases (show u = _ from h1); first | (cases h2 <;> rfl) | (obtain ⟨_, z⟩ := h2; cases z <;> rfl))
    | (obtain ⟨_, rfl⟩ := h1; first | (obtain ⟨_, z⟩ := h2; cases z <;> rfl) | cases h2)
def DAt (d : Addr) (n ep : Nat) (H : Hp) : Prop := ∃ o es, H d = some (exO d o) ∧ RawD d o es ep ∧ es.size = n
def Idk (d : Addr) (n ep : Nat) : It :=
  ⟨fun i H => ∃ o es en x, H d = some (exO d o) ∧ RawD d o es ep ∧ es.size = n ∧ es[i]? = some en ∧ RelV x en.key, fun i H x H' => H' = H ∧ ∀ o es, H d = some (exO d o) → RawD d o es ep → ∃ en, es[i]? = some en ∧ RelV x en.key, fun i H => DAt d n ep H ∧ n ≤ i⟩
def Idv (d : Addr) (n ep : Nat) : It :=
  ⟨fun i H => ∃ o es en x, H d = some (exO d o) ∧ RawD d o es ep ∧ es.size = n ∧ es[i]? = some en ∧ RelV x en.val, fun i H x H' => H' = H ∧ ∀ o es, H d = some (exO d o) → RawD d o es ep → ∃ en, es[i]? = some en ∧ RelV x en.val, fun i H => DAt d n ep H ∧ n ≤ i⟩
def Idi (d : Addr) (n ep : Nat) : It :=
  ⟨fun i H => ∃ o es en x y, H d = some (exO d o) ∧ RawD d o es ep ∧ es.size = n ∧ es[i]? = some en ∧ RelV x en.key ∧ RelV y en.val, fun i H x H' => ∃ T k v, x = .ref T ∧ H T = none ∧ H' = upd H T (.tup [k, v]) ∧ ∀ o es, H d = some (exO d o) → RawD d o es ep → ∃ en, es[i]? = some en ∧ RelV k en.key ∧ RelV v en.val, fun i H => DAt d n ep H ∧ n ≤ i⟩
section
variable {X : Cx} {pins : List (Addr × Obj)} {σ : L2.St} {H : Hp} {s : Shared} {d : Addr} {o : Obj} {es : Array DictEntry} {ep : Nat}
theorem same_o {o' : Obj} {es' : Array DictEntry} (I : Inv X pins σ H s) (h : H d = some (exO d o)) (r : RawD d o es ep) (h' : H d = some (exO d o')) (r' : RawD d o' es' ep) : es' = es := by
  have e1 := exO_at I h
  have e2 := exO_at I h'
  rw [e1] at e2
  cases e2
  have := r.dat.symm.trans r'.dat
  cases this
  rfl
theorem raw_of (I : Inv X pins σ H s) (h : H d = some (exO d o)) (r : RawD d o es ep) : s.heap.DictRaw d es ep := ⟨o, exO_at I h, r.ex, r.dat⟩
end
section
variable {P : Program} {w : World} {K : PySem.W.Frag} {tg : Expr} {d : Addr} {n ep : Nat}
theorem turn_dk (it : Addr) : Turn P w K tg (Idk d n ep) [it] it (fun i h => h.IsKeyIter it d i n ep) where
  mem := by simp
  obj := fun i h st b hb => by
    have e : b = it := by simpa using hb
    subst e
    obtain ⟨oi, e, c, dd⟩ := st
    exact ⟨oi, e, fun v z => by rw [dd] at z; cases z⟩
  keep := fun i h h' st k => st.at fun oi e => k it (by simp) oi e
  item := by
    intro X hP hw hK hc i pins s σ H E I hf st hg
    subst hP hw hK
    obtain ⟨o, es, en, x, hd, hr, rfl, hen, rx⟩ := hg
    obtain ⟨f0, f1, f2, f3, f4, f5⟩ := hf it (by simp)
    refine next_key_item st (exO_at I hd) hr.dat rfl hen fun h' st' sb => ?_
    have I1 : Inv X pins σ H { s with heap := h' } := I.turned (t' := s.toks) (fun b ob hb e => (sb.2 b hb).trans e) f0 f1 f3 f4 f5
    obtain ⟨oi, e, c, dd⟩ := id st'
    refine ⟨en.key, rfl, go_of (s := { s with heap := h' }) e c dd (by decide) ⟨x, H, I1, rx, ⟨rfl, fun o' es' h1 h2 => ?_⟩, st', fun b hb => (hf b hb).1⟩⟩
    rw [same_o I hd hr h1 h2]
    exact ⟨en, hen, rx⟩
  done := by
    intro X hP hw hK hc i pins s σ H E I hf st hg
    subst hP hw hK
    obtain ⟨⟨o, es, hd, hr, rfl⟩, hi⟩ := hg
    obtain ⟨f0, f1, f2, f3, f4, f5⟩ := hf it (by simp)
    exact next_key_end (I.ok.hd hc) st (exO_at I hd) hr.dat rfl hi fun h' eb => ⟨rfl, I.turned (t' := s.toks) (fun b ob hb e => eb b ob hb e) f0 f1 f3 f4 f5⟩
  self := fun A i s Q E st h => by
    refine wpAny_pyIter_slot st.typeIs F.slot_dict_keyiterator_iter (wpAny_call_entry F.slot_dict_keyiterator_iter st.typeIs F.entry_dict_keyiterator_iter ?_ (F.args_dict_keyiterator_iter_1 _))
    show wpAny _ _ (ret (.ref it)) _ _ s
    exact wpAny_pure ⟨_, rfl, "dict_keyiterator", _, st.typeIs, F.slot_dict_keyiterator_next.lookup, h⟩
theorem turn_dv (it : Addr) : Turn P w K tg (Idv d n ep) [it] it (fun i h => h.IsValIter it d i n ep) where
  mem := by simp
  obj := fun i h st b hb => by
    have e : b = it := by simpa using hb
    subst e
    obtain ⟨oi, e, c, dd⟩ := st
    exact ⟨oi, e, fun v z => by rw [dd] at z; cases z⟩
  keep := fun i h h' st k => st.at fun oi e => k it (by simp) oi e
  item := by
    intro X hP hw hK hc i pins s σ H E I hf st hg
    subst hP hw hK
    obtain ⟨o, es, en, x, hd, hr, rfl, hen, rx⟩ := hg
    obtain ⟨f0, f1, f2, f3, f4, f5⟩ := hf it (by simp)
    obtain ⟨hlt, hen'⟩ := Array.getElem?_eq_some_iff.mp hen
    refine wpAny_pyNext_values_item_raw st (raw_of I hd hr) hlt fun h' st' sb => ?_
    have I1 : Inv X pins σ H { s with heap := h' } := I.turned (t' := s.toks) (fun b ob hb e => (sb.2 b hb).trans e) f0 f1 f3 f4 f5
    obtain ⟨oi, e, c, dd⟩ := id st'
    refine ⟨es[i].val, rfl, go_of (s := { s with heap := h' }) e c dd (by decide) ⟨x, H, I1, by rw [hen']; exact rx, ⟨rfl, fun o' es' h1 h2 => ?_⟩, st', fun b hb => (hf b hb).1⟩⟩
    rw [same_o I hd hr h1 h2]
    exact ⟨en, hen, rx⟩
  done := by
    intro X hP hw hK hc i pins s σ H E I hf st hg
    subst hP hw hK
    obtain ⟨⟨o, es, hd, hr, rfl⟩, hi⟩ := hg
    obtain ⟨f0, f1, f2, f3, f4, f5⟩ := hf it (by simp)
    exact wpAny_pyNext_values_end_raw (I.ok.hd hc) st (raw_of I hd hr) hi fun h' eb => ⟨rfl, I.turned (t' := s.toks) (fun b ob hb e => eb b ob hb e) f0 f1 f3 f4 f5⟩
  self := fun A i s Q E st h => wpAny_pyIter_valiter st h
theorem turn_di {elts : List Expr} {kk : Nat} {tpos : Pos} (it : Addr) : Turn P w K (.Tuple elts kk tpos) (Idi d n ep) [it] it (fun i h => ∃ ok ov, IsItemIter h it d i n ep ok ov) where
  mem := by simp
  obj := fun i h st b hb => by
    have e : b = it := by simpa using hb
    subst e
    obtain ⟨ok, ov, e⟩ := st
    exact ⟨_, e, fun v z => nomatch z⟩
  keep := fun i h h' st k => let ⟨ok, ov, e⟩ := st; ⟨ok, ov, k it (by simp) _ e⟩
  item := by
    intro X hP hw hK hc i pins s σ H E I hf st hg
    subst hP hw hK
    obtain ⟨o, es, en, x, y, hd, hr, rfl, hen, rx, ry⟩ := hg
    obtain ⟨ok, ov, he⟩ := st
    have hlt : it < s.heap.objs.size := Heap.lt_size he
    obtain ⟨hlt2, hen'⟩ := Array.getElem?_eq_some_iff.mp hen
    refine wpAny_pyNext_items_item_raw he (raw_of I hd hr) hlt2 fun h' ho hT hz hk => ?_
    refine ⟨_, rfl, wpAny_letOwnedTupleGo_items (s := { s with heap := h' }) ho fun h'' he' sb => ?_⟩
    have hT2 : h''.get? s.heap.objs.size = some { cls := .type "tuple", data := .seq #[es[i].key, es[i].val] } := (sb.2 _ (Nat.ne_of_gt hlt)).trans hT
    have new : ObjOk X.prog X.w (upd H s.heap.objs.size (.tup [x, y])) h'' s.heap.objs.size (.tup [x, y]) :=
      ⟨by show 2 ≤ sizeLine; decide, [es[i].key, es[i].val], .cons (by rw [hen']; exact rx) (.cons (by rw [hen']; exact ry) .nil), ⟨_, hT2, rfl, _, rfl⟩⟩
    have I1 : Inv X pins σ (upd H s.heap.objs.size (.tup [x, y])) { s with heap := h'' } :=
      I.turnedNew (t' := s.toks) (ch := [it]) (fun b ob hb e => (sb.2 b (by simpa using hb)).trans (hk b ob (by simpa using hb) e)) hf (Nat.le_refl _) new
    refine ⟨.ref s.heap.objs.size, _, I1, rfl, ⟨_, x, y, rfl, I.hok.fresh (Nat.le_refl _), rfl, fun o' es' h1 h2 => ?_⟩, ⟨_, _, he'⟩, fun b hb => ?_⟩
    · rw [same_o I hd hr h1 h2]
      exact ⟨en, hen, rx, ry⟩
    · have e : b = it := by simpa using hb
      rw [e, upd_ne (Nat.ne_of_lt hlt)]
      exact (hf it (by simp)).1
  done := by
    intro X hP hw hK hc i pins s σ H E I hf st hg
    subst hP hw hK
    obtain ⟨⟨o, es, hd, hr, rfl⟩, hi⟩ := hg
    obtain ⟨f0, f1, f2, f3, f4, f5⟩ := hf it (by simp)
    obtain ⟨ok, ov, he⟩ := st
    exact wpAny_pyNext_items_end_raw (I.ok.hd hc) he (raw_of I hd hr) hi fun h' eb => ⟨rfl, I.turned (t' := s.toks) (fun b ob hb e => eb b ob hb e) f0 f1 f3 f4 f5⟩
  self := fun A i s Q E st h => let ⟨_, _, e⟩ := st; PySem.W.kcp_self e h
end
end MP
/-! MiniPy D5: for k in d, d.values(), d.items(). -/
namespace MP
open PySem PySem.Spec PyProof.Rows L2
variable [TabC]
def iDk (td : TE) : TI := fun σ H R => td σ H fun x H1 => ∃ d n ep, x = .ref d ∧ DAt d n ep H1 ∧ R (Idk d n ep) H1
def iDv (td : TE) : TI := fun σ H R => td σ H fun x H1 => ∃ d n ep, x = .ref d ∧ DAt d n ep H1 ∧ R (Idv d n ep) H1
def iDi (td : TE) : TI := fun σ H R => td σ H fun x H1 => ∃ d n ep, x = .ref d ∧ DAt d n ep H1 ∧ R (Idi d n ep) H1
section
variable {X : Cx} {tg e : Expr} {td : TE} {apos cpos : Pos}
theorem pi_dk (he : PE X e td) : PI X tg e (iDk td) := by
  refine ⟨fun pins s σ H R I h => ?_⟩
  refine thn (he.run pins s σ H _ I h) fun u s1 ⟨x, H1, I1, rx, d, n, ep, ex, ⟨o, es, hd, hr, hsz⟩, q⟩ => ?_
  subst ex
  obtain rfl : u = Value.ref d := rx
  refine iter_keys hr.low (exO_at I1 hd) hr.ex hr.dat (pi_one (tk := s1.toks) I1 _ (turn_dk _) ⟨_, Heap.get?_push_size _ rfl, rfl, ?_⟩ q)
  rw [hsz] <;> rfl
theorem dict_noDict {s : Shared} {H : Hp} {pins : List (Addr × Obj)} {σ : L2.St} {d : Addr} {o : Obj} {es : Array DictEntry} {ep : Nat} (I : Inv X pins σ H s) (hd : H d = some (exO d o)) (hr : RawD d o es ep) : s.TypeIs (.ref d) "dict" ∧ ∀ a, Value.ref d = Value.ref a → ∃ o', s.heap.get? a = some o' ∧ o'.dict = none :=
  ⟨⟨o, exO_at I hd, hr.ex.1⟩, fun a z => by
    cases z
    exact ⟨o, exO_at I hd, hr.ex.2.1⟩⟩
theorem pi_dv (he : PE X e td) (hbase : attributeBase e "values" X.env (eval e X.env) = eval e X.env := by rfl) (hline : (apos.endLine == cpos.line) = true := by rfl) : PI X tg (.Call (.Attribute e "values" apos) [] [] cpos) (iDv td) := by
  refine ⟨fun pins s σ H R I h => ?_⟩
  refine wpAny_Call_method (T := "dict") (id := "dict.values") hbase rfl hline F.plainAttrs_dict F.slot_dict_values F.type_dict_values (thn (he.run pins s σ H _ I h) fun u s1 ⟨x, H1, I1, rx, d, n, ep, ex, ⟨o, es, hd, hr, hsz⟩, q⟩ => ?_)
  subst ex
  obtain rfl : u = Value.ref d := rx
  obtain ⟨t1, t2⟩ := dict_noDict I1 hd hr
  refine ⟨t1, t2, ?_⟩
  have I2 : Inv X pins σ H1 { s1 with heap := s1.heap.push { cls := .type "dict_values", data := .fields #[.ref d] } } := I1.kept (t' := s1.toks) fun b ob q => Heap.get?_push_of_some _ q
  have fin : wpAny (model X.prog X.w) X.A (pyIter (.ref s1.heap.objs.size)) (PIE X pins σ tg R) X.xe { s1 with heap := s1.heap.push { cls := .type "dict_values", data := .fields #[.ref d] } } := by
    refine wpAny_pyIter_values_raw (d := d) ⟨_, Heap.get?_push_size _ rfl, rfl, rfl⟩ (raw_of I2 hd hr) (pi_one (tk := s1.toks) I2 _ (turn_dv _) ⟨_, Heap.get?_push_size _ rfl, rfl, ?_⟩ q)
    rw [hsz] <;> rfl
  show wpAny _ _ (callWith cpos (.builtin "dict.values") [.ref d] [] []) _ X.xe s1
  exact method_meetsIn F.slot_dict_values F.entry_dict_values rfl (PySem.evalArgs_none ⟨rfl, t1, F.args_dict_values_1 _, _, meets_dict_values_raw d hr.low, ⟨_, _, raw_of I1 hd hr⟩, fin⟩)
theorem pi_di {elts : List Expr} {kk : Nat} {tpos : Pos} (he : PE X e td) (hbase : attributeBase e "items" X.env (eval e X.env) = eval e X.env := by rfl) (hline : (apos.endLine == cpos.line) = true := by rfl) :
    PI X (.Tuple elts kk tpos) (.Call (.Attribute e "items" apos) [] [] cpos) (iDi td) := by
  refine ⟨fun pins s σ H R I h => ?_⟩
  refine wpAny_Call_method (T := "dict") (id := "dict.items") hbase rfl hline F.plainAttrs_dict F.slot_dict_items F.type_dict_items (thn (he.run pins s σ H _ I h) fun u s1 ⟨x, H1, I1, rx, d, n, ep, ex, ⟨o, es, hd, hr, hsz⟩, q⟩ => ?_)
  subst ex
  obtain rfl : u = Value.ref d := rx
  obtain ⟨t1, t2⟩ := dict_noDict I1 hd hr
  refine ⟨t1, t2, ?_⟩
  have I2 : Inv X pins σ H1 { s1 with heap := s1.heap.push { cls := .type "dict_items", data := .fields #[.ref d] } } := I1.kept (t' := s1.toks) fun b ob q => Heap.get?_push_of_some _ q
  have fin : wpAny (model X.prog X.w) X.A (pyIter (.ref s1.heap.objs.size)) (PIE X pins σ (.Tuple elts kk tpos) R) X.xe { s1 with heap := s1.heap.push { cls := .type "dict_items", data := .fields #[.ref d] } } := by
    refine wpAny_pyIter_items_raw (d := d) ⟨_, Heap.get?_push_size _ rfl, rfl, rfl⟩ (raw_of I2 hd hr) (pi_one (tk := s1.toks) I2 _ (turn_di _) ⟨.none, .none, ?_⟩ q)
    rw [← hsz]
    exact Heap.get?_push_size _ rfl
  show wpAny _ _ (callWith cpos (.builtin "dict.items") [.ref d] [] []) _ X.xe s1
  exact method_meetsIn F.slot_dict_items F.entry_dict_items rfl (PySem.evalArgs_none ⟨rfl, t1, F.args_dict_items_1 _, _, meets_dict_items_raw d hr.low, ⟨_, _, raw_of I1 hd hr⟩, fin⟩)
end
/-! what is walked -/
section
variable {K : PySem.W.Frag} {φ1 : Ph} {H1 : Hp}
/-- the dict's content, whenever it is asked -/
def DNow (K : PySem.W.Frag) (φ : Ph) (H : Hp) (a : Addr) (ep : Nat) (l : List (D × D)) : Prop := ∃ o es vs, H a = some (exO a o) ∧ RawD a o es ep ∧ EntsOk l vs es.toList ∧ RepP K φ H l vs
theorem Ents.at : ∀ {l : List (D × D)} {vs : List (V × V)} {es : List DictEntry} {i : Nat} {p : D × D}, Ents l vs es → l[i]? = some p → ∃ q en, vs[i]? = some q ∧ es[i]? = some en ∧ RelV q.1 en.key ∧ RelV q.2 en.val
  | p :: l, q :: vs, e :: es, 0, p', h, hp => ⟨q, e, rfl, rfl, h.2.1, h.2.2.1⟩
  | p :: l, q :: vs, e :: es, i + 1, p', h, hp => by
    obtain ⟨a, b, h1, h2, h3⟩ := Ents.at (i := i) (p := p') h.2.2.2 (by simpa using hp)
    exact ⟨a, b, by simpa using h1, by simpa using h2, h3⟩
  | [], _, _, i, p', _, hp => by simp at hp
theorem DNow.at {φ : Ph} {H : Hp} {a : Addr} {ep : Nat} {l : List (D × D)} (h : DNow K φ H a ep l) : ∃ o es, H a = some (exO a o) ∧ RawD a o es ep ∧ es.size = l.length ∧
    ∀ (i : Nat) (p : D × D), l[i]? = some p → ∃ (u v : V) (en : DictEntry), Rep K φ H p.1 u ∧ Rep K φ H p.2 v ∧ es[i]? = some en ∧ RelV u en.key ∧ RelV v en.val := by
  obtain ⟨o, es, vs, h1, h2, h3, h4⟩ := h
  refine ⟨o, es, h1, h2, by rw [← Array.length_toList]; exact h3.2.len.1, fun i p hp => ?_⟩
  obtain ⟨q, en, e1, e2, e3, e4⟩ := h3.2.at hp
  obtain ⟨u, v, f1, f2, f3⟩ := h4.get hp
  rw [e1] at f1
  cases f1
  exact ⟨u, v, en, f2, f3, by rw [← Array.getElem?_toList]; exact e2, e3, e4⟩
theorem wk_dk {a : Addr} {ep : Nat} {l : List (D × D)} {n : Option (Nat × D)} (h : ∀ φ H M, Ex1 φ1 H1 φ H → MH K φ H M → (Wk.mk (l.map (·.1)) n).ok M = true → DNow K φ H a ep l) : WkIs K φ1 H1 ⟨l.map (·.1), n⟩ (Idk a l.length ep) := by
  intro φ H M e m ok i
  obtain ⟨o, es, h1, h2, h3, h4⟩ := (h φ H M e m ok).at
  refine ⟨fun hi => ⟨⟨o, es, h1, h2, h3⟩, by simpa using hi⟩, fun d hd => ?_⟩
  replace hd : (l.map (·.1))[i]? = some d := hd
  rw [List.getElem?_map, Option.map_eq_some_iff] at hd
  obtain ⟨p, hp, rfl⟩ := hd
  obtain ⟨u, v, en, r1, r2, f1, f2, f3⟩ := h4 i p hp
  refine ⟨⟨o, es, en, u, h1, h2, h3, f1, f2⟩, fun x H' y => ?_⟩
  obtain ⟨rfl, y⟩ := y
  obtain ⟨en', g1, g2⟩ := y o es h1 h2
  rw [f1] at g1
  cases g1
  rw [relV_inj g2 f2]
  exact ⟨Ext.refl, m, r1⟩
theorem wk_dv {a : Addr} {ep : Nat} {l : List (D × D)} {n : Option (Nat × D)} (h : ∀ φ H M, Ex1 φ1 H1 φ H → MH K φ H M → (Wk.mk (l.map (·.2)) n).ok M = true → DNow K φ H a ep l) : WkIs K φ1 H1 ⟨l.map (·.2), n⟩ (Idv a l.length ep) := by
  intro φ H M e m ok i
  obtain ⟨o, es, h1, h2, h3, h4⟩ := (h φ H M e m ok).at
  refine ⟨fun hi => ⟨⟨o, es, h1, h2, h3⟩, by simpa using hi⟩, fun d hd => ?_⟩
  replace hd : (l.map (·.2))[i]? = some d := hd
  rw [List.getElem?_map, Option.map_eq_some_iff] at hd
  obtain ⟨p, hp, rfl⟩ := hd
  obtain ⟨u, v, en, r1, r2, f1, f2, f3⟩ := h4 i p hp
  refine ⟨⟨o, es, en, v, h1, h2, h3, f1, f3⟩, fun x H' y => ?_⟩
  obtain ⟨rfl, y⟩ := y
  obtain ⟨en', g1, g2⟩ := y o es h1 h2
  rw [f1] at g1
  cases g1
  rw [relV_inj g2 f3]
  exact ⟨Ext.refl, m, r2⟩
theorem wk_di {a : Addr} {ep : Nat} {l : List (D × D)} {n : Option (Nat × D)} (h : ∀ φ H M, Ex1 φ1 H1 φ H → MH K φ H M → (Wk.mk (l.map pairD) n).ok M = true → DNow K φ H a ep l) : WkIs K φ1 H1 ⟨l.map pairD, n⟩ (Idi a l.length ep) := by
  intro φ H M e m ok i
  obtain ⟨o, es, h1, h2, h3, h4⟩ := (h φ H M e m ok).at
  refine ⟨fun hi => ⟨⟨o, es, h1, h2, h3⟩, by simpa using hi⟩, fun d hd => ?_⟩
  replace hd : (l.map pairD)[i]? = some d := hd
  rw [List.getElem?_map, Option.map_eq_some_iff] at hd
  obtain ⟨p, hp, rfl⟩ := hd
  obtain ⟨u, v, en, r1, r2, f1, f2, f3⟩ := h4 i p hp
  refine ⟨⟨o, es, en, u, v, h1, h2, h3, f1, f2, f3⟩, fun x H' y => ?_⟩
  obtain ⟨T, k, w, rfl, hT, rfl, y⟩ := y
  obtain ⟨en', g1, g2, g3⟩ := y o es h1 h2
  rw [f1] at g1
  cases g1
  rw [relV_inj g2 f2, relV_inj g3 f3]
  exact pair_new m hT r1 r2
/-- a dict by value stays -/
theorem dct_later {e : Nat} {l : List (D × D)} {a : Addr} (r : Rep K φ1 H1 (.dct e l) (.ref a)) : ∃ ep, ∀ φ H, Ex1 φ1 H1 φ H → DNow K φ H a ep l := by
  cases r with
  | dct h1 h2 h3 h4 h5 => exact ⟨_, fun φ H e => ⟨_, _, _, (e.keep _ _ h1 exO_nt h2).1, h3, h4, RepP.ex1 e _ _ h5⟩⟩
theorem dref_later {n ep : Nat} {l : List (D × D)} {a : Addr} (r : Rep K φ1 H1 (.ref n) (.ref a)) {φ : Ph} {H : Hp} {M : List D} (e : Ex1 φ1 H1 φ H) (m : MH K φ H M) (hc : M[n]? = some (.dct (ep + 1) l)) : DNow K φ H a ep l := by
  cases r with
  | ref h1 =>
    cases m.at_ _ _ _ (e.get h1) hc with
    | dct h2 h3 h4 h5 h6 =>
      rcases h4 with z | z
      · cases z
      · cases z
        exact ⟨_, _, _, h2, h3, h5, h6⟩
end
section
variable {X : Cx} {W : WX} {cl : Cl} {a tg : Expr} {ma : E} {pos apos : Pos}
theorem dat_of {K : PySem.W.Frag} {φ : Ph} {H : Hp} {b : Addr} {ep : Nat} {l : List (D × D)} (h : DNow K φ H b ep l) : DAt b l.length ep H := by
  obtain ⟨o, es, h1, h2, h3, _⟩ := h.at
  exact ⟨o, es, h1, h2, h3⟩
theorem wkok_src {l : List D} {n : Nat} {c : D} {M : List D} (h : (Wk.mk l (some (n, c))).ok M = true) : M[n]? = some c := by
  unfold Wk.ok at h
  simp only at h
  split at h
  · rename_i d hd
    rw [hd, bq_eq h]
  · cases h
theorem mi_keys (ha : PE X a (tE X.K W (evE cl ma))) : PI X tg a (tI X.K W (evI cl (.keys ma))) := by
  refine imp_PI' (pi_dk ha) fun σ H Rr h => ?_
  obtain ⟨L, φ, M, lr, mh, p⟩ := h
  refine tE_use lr mh (PR.bind (show PR X.K W σ φ H ((evE cl ma L M).bind fun x M1 => ofO (keyS M1 x) M1) _ from p)) fun x M1 φ1 H1 v e1 m1 g1 r1 => ?_
  cases x with
  | dct e l =>
    have hv : ∃ b, v = .ref b := by cases id r1 with | dct _ _ _ _ _ => exact ⟨_, rfl⟩
    obtain ⟨b, rfl⟩ := hv
    obtain ⟨ep, hn⟩ := dct_later r1
    exact ⟨b, l.length, ep, rfl, dat_of (hn φ1 H1 Ex1.refl), (show PR X.K W σ φ1 H1 (.ok (Wk.mk (l.map (·.1)) none) M1) _ from g1).here m1 _ (wk_dk fun φ H M e _ _ => hn φ H e)⟩
  | ref n =>
    replace g1 := show PR X.K W σ φ1 H1 (ofO (match M1[n]? with | some (.dct (e + 1) l) => some (Wk.mk (l.map (·.1)) (some (n, .dct (e + 1) l))) | _ => none) M1) _ from g1
    split at g1
    · rename_i ep l hl
      have hv : ∃ b, v = .ref b := by cases id r1 with | ref _ => exact ⟨_, rfl⟩
      obtain ⟨b, rfl⟩ := hv
      exact ⟨b, l.length, ep, rfl, dat_of (dref_later r1 Ex1.refl m1 hl), g1.here m1 _ (wk_dk fun φ H M e m ok => dref_later r1 e m (wkok_src ok))⟩
    · exact False.elim g1
  | _ => exact False.elim g1
theorem mi_vals (ha : PE X a (tE X.K W (evE cl ma))) (hbase : attributeBase a "values" X.env (eval a X.env) = eval a X.env) (hline : (apos.endLine == pos.line) = true) : PI X tg (.Call (.Attribute a "values" apos) [] [] pos) (tI X.K W (evI cl (.vals ma))) := by
  refine imp_PI' (pi_dv ha hbase hline) fun σ H Rr h => ?_
  obtain ⟨L, φ, M, lr, mh, p⟩ := h
  refine tE_use lr mh (PR.bind (show PR X.K W σ φ H ((evE cl ma L M).bind fun x M1 => ofO (valS M1 x) M1) _ from p)) fun x M1 φ1 H1 v e1 m1 g1 r1 => ?_
  cases x with
  | dct e l =>
    have hv : ∃ b, v = .ref b := by cases id r1 with | dct _ _ _ _ _ => exact ⟨_, rfl⟩
    obtain ⟨b, rfl⟩ := hv
    obtain ⟨ep, hn⟩ := dct_later r1
    exact ⟨b, l.length, ep, rfl, dat_of (hn φ1 H1 Ex1.refl), (show PR X.K W σ φ1 H1 (.ok (Wk.mk (l.map (·.2)) none) M1) _ from g1).here m1 _ (wk_dv fun φ H M e _ _ => hn φ H e)⟩
  | ref n =>
    replace g1 := show PR X.K W σ φ1 H1 (ofO (match M1[n]? with | some (.dct (e + 1) l) => some (Wk.mk (l.map (·.2)) (some (n, .dct (e + 1) l))) | _ => none) M1) _ from g1
    split at g1
    · rename_i ep l hl
      have hv : ∃ b, v = .ref b := by cases id r1 with | ref _ => exact ⟨_, rfl⟩
      obtain ⟨b, rfl⟩ := hv
      exact ⟨b, l.length, ep, rfl, dat_of (dref_later r1 Ex1.refl m1 hl), g1.here m1 _ (wk_dv fun φ H M e m ok => dref_later r1 e m (wkok_src ok))⟩
    · exact False.elim g1
  | _ => exact False.elim g1
theorem mi_items {elts : List Expr} {kk : Nat} {tpos : Pos} (ha : PE X a (tE X.K W (evE cl ma))) (hbase : attributeBase a "items" X.env (eval a X.env) = eval a X.env) (hline : (apos.endLine == pos.line) = true) : PI X (.Tuple elts kk tpos) (.Call (.Attribute a "items" apos) [] [] pos) (tI X.K W (evI cl (.items ma))) := by
  refine imp_PI' (pi_di ha hbase hline) fun σ H Rr h => ?_
  obtain ⟨L, φ, M, lr, mh, p⟩ := h
  refine tE_use lr mh (PR.bind (show PR X.K W σ φ H ((evE cl ma L M).bind fun x M1 => ofO (itmS M1 x) M1) _ from p)) fun x M1 φ1 H1 v e1 m1 g1 r1 => ?_
  cases x with
  | dct e l =>
    have hv : ∃ b, v = .ref b := by cases id r1 with | dct _ _ _ _ _ => exact ⟨_, rfl⟩
    obtain ⟨b, rfl⟩ := hv
    obtain ⟨ep, hn⟩ := dct_later r1
    exact ⟨b, l.length, ep, rfl, dat_of (hn φ1 H1 Ex1.refl), (show PR X.K W σ φ1 H1 (.ok (Wk.mk (l.map pairD) none) M1) _ from g1).here m1 _ (wk_di fun φ H M e _ _ => hn φ H e)⟩
  | ref n =>
    replace g1 := show PR X.K W σ φ1 H1 (ofO (match M1[n]? with | some (.dct (e + 1) l) => some (Wk.mk (l.map pairD) (some (n, .dct (e + 1) l))) | _ => none) M1) _ from g1
    split at g1
    · rename_i ep l hl
      have hv : ∃ b, v = .ref b := by cases id r1 with | ref _ => exact ⟨_, rfl⟩
      obtain ⟨b, rfl⟩ := hv
      exact ⟨b, l.length, ep, rfl, dat_of (dref_later r1 Ex1.refl m1 hl), g1.here m1 _ (wk_di fun φ H M e m ok => dref_later r1 e m (wkok_src ok))⟩
    · exact False.elim g1
  | _ => exact False.elim g1
end
end MP
/-! MiniPy D6: d.setdefault(k, v), d.update(x). -/
namespace MP
open PySem PySem.Spec PyProof.Rows L2
variable [TabC]
/-- a method of a dict, called -/
def tBMd (r : V → List V → Hp → VK → Prop) (to : TE) (t : TA) : TE := fun σ H Q => to σ H fun x H1 => (∃ d n ep, x = .ref d ∧ DAt d n ep H1) ∧ t σ H1 fun xs H2 => r x xs H2 Q
section
variable {X : Cx} {o e : Expr} {es : List Expr} {to : TE} {t : TA} {name : Str} {apos cpos : Pos} {id : String} {r : V → List V → Hp → VK → Prop}
theorem pe_bmd (slot : Slot "dict" name id) (hty : typeOf (.builtin id) = pure (.type "method_descriptor")) (hm : MtR X id r) (ho : PE X o to) (ha : PA X (e :: es) t)
    (hbase : attributeBase o name X.env (eval o X.env) = eval o X.env)
    (hfew : ((backTo cpos (starEach (e :: es) X.env)).all (fun x => !x.1) && (backToKw cpos (keywordEach [] X.env)).all (fun x => x.1.isSome)
      && decide ((e :: es).length + ([] : List Keyword).length + (if ([] : List Keyword).isEmpty then 0 else 1) < 30)) = true)
    (hline : (apos.endLine == cpos.line) = true) (hs : starEach (e :: es) X.env = (false, eval e X.env) :: starEach es X.env) (hplain : (backTo cpos (starEach es X.env)).any (·.1) = false) :
    PE X (.Call (.Attribute o name apos) (e :: es) [] cpos) (tBMd r to t) := by
  refine ⟨fun pins s σ H Q I h => ?_⟩
  refine wpAny_Call_method_late hbase hfew hline rfl (thn (ho.run pins s σ H _ I h) fun v s1 ⟨x, H1, I1, r1, ⟨d, n, ep, ex, o', es', hd, hr, hsz⟩, q1⟩ => ?_)
  subst ex
  obtain rfl : v = Value.ref d := r1
  obtain ⟨h1, h2⟩ := dict_noDict I1 hd hr
  refine ⟨"dict", id, F.plainAttrs_dict, slot, hty, h1, h2, ?_⟩
  have hA := ha.run cpos pins s1 σ H1 _ I1 q1
  rw [hs] at hA ⊢
  refine Calls.callWith_builtin (by show (false || (backTo cpos (starEach es X.env)).any (·.1)) = false; rw [hplain] <;> rfl) (Calls.evalArgs_plain ?_)
  exact thn hA fun us s2 ⟨vs, H2, I2, r2, q2⟩ => hm pins s2 σ H2 (.ref d) vs _ us Q I2 (show RelV (.ref d) (.ref d) from rfl) r2 q2
def rSetdN (K : PySem.W.Frag) : V → List V → Hp → VK → Prop := fun x xs H Q => ∃ φ M n y d d2 M', MH K φ H M ∧ Rep K φ H (.ref n) x ∧ Reps K φ H [y, d] xs ∧ setdS M (.ref n) y d = some (d2, M') ∧ ∀ φ' H' v, Ext φ H φ' H' → MH K φ' H' M' → Rep K φ' H' d2 v → Q v H'
theorem mt_setd (hu : X.A.units + 64 < cLine) (hw : TabC.w = X.w) : MtR X "dict.setdefault" (rSetdN X.K) := by
  intro pins s σ H x xs v us Q I rx rv h
  obtain ⟨φ, M, n, y, d, d2, M', m, r1, r2, hs, q⟩ := h
  cases r2 with
  | cons ry r2 =>
    cases r2 with
    | cons rd r2 =>
      cases r2
      obtain ⟨u1, u2, rfl, v1, v2⟩ := vals2 rv
      exact d_setd (room8 hu) hw I m r1 ry rd rx v1 v2 hs fun s' H' w z I' e m' r' rz => ⟨w, H', I', rz, q φ H' w e m' r'⟩
end
section
variable {X : Cx} {W : WX} {cl : Cl} {o a b : Expr} {mo ma mb : E} {apos pos : Pos}
theorem isDr_at {K : PySem.W.Frag} {φ : Ph} {H : Hp} {M : List D} {x : D} {v : V} (m : MH K φ H M) (r : Rep K φ H x v) (h : isDr M x = true) : ∃ n d k ep, x = .ref n ∧ v = .ref d ∧ DAt d k ep H := by
  unfold isDr at h
  cases x with
  | ref n =>
    simp only at h
    split at h
    · rename_i e l hl
      obtain ⟨a, o, es, ep, vs, rfl, hn, h2, h3, hq, h5, h6⟩ := (show ∃ a o es ep vs, v = .ref a ∧ φ.f[n]? = some a ∧ H a = some (exO a o) ∧ RawD a o es ep ∧ (e = 0 ∨ e = ep + 1) ∧ EntsOk l vs es.toList ∧ RepP K φ H l vs by
        cases r with
        | ref h1 =>
          cases m.at_ _ _ _ h1 hl with
          | dct h2 h3 h4 h5 h6 => exact ⟨_, _, _, _, _, rfl, h1, h2, h3, h4, h5, h6⟩)
      exact ⟨n, a, _, _, rfl, rfl, o, es, h2, h3, rfl⟩
    · cases h
  | _ => cases h
theorem me_setd (hu : X.A.units + 64 < cLine) (hw : TabC.w = X.w) (ho : PE X o (tE X.K W (evE cl mo))) (ha : PE X a (tE X.K W (evE cl ma))) (hb : PE X b (tE X.K W (evE cl mb)))
    (hbase : attributeBase o "setdefault" X.env (eval o X.env) = eval o X.env)
    (hfew : ((backTo pos (starEach [a, b] X.env)).all (fun x => !x.1) && (backToKw pos (keywordEach [] X.env)).all (fun x => x.1.isSome)
      && decide ([a, b].length + ([] : List Keyword).length + (if ([] : List Keyword).isEmpty then 0 else 1) < 30)) = true)
    (hline : (apos.endLine == pos.line) = true) (he2 : starEach [a, b] X.env = (false, eval a X.env) :: starEach [b] X.env) (he3 : starEach [b] X.env = (false, eval b X.env) :: starEach [] X.env) (hplain : (backTo pos (starEach [b] X.env)).any (·.1) = false) :
    PE X (.Call (.Attribute o "setdefault" apos) [a, b] [] pos) (tE X.K W (evE cl (.setd mo ma mb))) := by
  refine imp_PE (pe_bmd F.slot_dict_setdefault F.type_dict_setdefault (mt_setd hu hw) ho (pa_cons ha (pa_cons hb pa_nil he3) he2) hbase hfew hline he2 hplain) fun σ H Q h => ?_
  obtain ⟨L, φ, M, lr, mh, p⟩ := h
  refine tE_use lr mh (PR.bind (show PR X.K W σ φ H ((evE cl mo L M).bind fun x M1 => if isDr M1 x then (evE cl ma L M1).bind fun y M2 => (evE cl mb L M2).bind fun z M3 => (match setdS M3 x y z with | some (d, M4) => .ok d M4 | none => .bad) else .bad) _ from p)) fun x M1 φ1 H1 v e1 m1 g1 r1 => ?_
  split at g1
  · rename_i hd
    obtain ⟨n, d, k, ep, rfl, rfl, dat⟩ := isDr_at m1 r1 hd
    refine ⟨⟨d, k, ep, rfl, dat⟩, ?_⟩
    refine tE_use (lr.ext e1) m1 g1.bind fun y M2 φ2 H2 v2 e2 m2 g2 r2 => ?_
    refine tE_use ((lr.ext e1).ext e2) m2 g2.bind fun z M3 φ3 H3 v3 e3 m3 g3 r3 => ?_
    split at g3
    · rename_i d2 M4 hs
      exact ⟨φ3, M3, n, y, z, d2, M4, m3, Rep.ext e3 _ _ (Rep.ext e2 _ _ r1), .cons (Rep.ext e3 _ _ r2) (.cons r3 .nil), hs, fun φ' H' v e m r => g3 φ' H' e m v r⟩
    · exact False.elim g3
  · exact False.elim g1
end
end MP
/-! MiniPy D7: d.update(x), x a dict by value. -/
namespace MP
open PySem PySem.Spec PyProof.Rows L2
variable [TabC]
section
variable {X : Cx} {pins : List (Addr × Obj)} {σ : L2.St} {H : Hp} {s : Shared} {φ : Ph}
theorem ents_of_xs (hw : TabC.w = X.w) {h : Heap} : ∀ {l : List (D × D)} {vs : List (V × V)} {xs : List (NestedKey × Addr × Value)}, XsOk X h l vs xs → Ents l vs (xs.map (entryOfKey (nestedKind X.prog X.w)))
  | [], [], [], _ => True.intro
  | p :: l, q :: vs, x :: xs, hx => by
    refine ⟨⟨x.1, hx.1, hx.2.1.2, ?_⟩, ?_, hx.2.2.2.1, ents_of_xs hw hx.2.2.2.2⟩
    · rw [hw]
      rfl
    · rw [hx.2.2.1]
      rfl
theorem XsOk.mod {h : Heap} {d : D} {v : V} {u : Value} (ru : RelV v u) : ∀ {l : List (D × D)} {vs : List (V × V)} {xs : List (NestedKey × Addr × Value)} (j : Nat), XsOk X h l vs xs → XsOk X h (l.modify j fun p => (p.1, d)) (vs.modify j fun q => (q.1, v)) (xs.modify j fun x => (x.1, x.2.1, u))
  | [], [], [], j, _ => by simp [XsOk]
  | p :: l, q :: vs, x :: xs, 0, hx => ⟨hx.1, hx.2.1, hx.2.2.1, ru, hx.2.2.2.2⟩
  | p :: l, q :: vs, x :: xs, j + 1, hx => by
    simp only [List.modify_succ_cons]
    exact ⟨hx.1, hx.2.1, hx.2.2.1, hx.2.2.2.1, XsOk.mod ru j hx.2.2.2.2⟩
theorem XsOk.push {h : Heap} {y d : D} {v : V} {k : NestedKey} {ya : Addr} {u : Value} (hk : keyOf y = some k) (his : (nestedKind X.prog X.w).is h k ya) (ru : RelV v u) : ∀ {l : List (D × D)} {vs : List (V × V)} {xs : List (NestedKey × Addr × Value)}, XsOk X h l vs xs → XsOk X h (l ++ [(y, d)]) (vs ++ [(.ref ya, v)]) (xs ++ [(k, ya, u)])
  | [], [], [], _ => ⟨hk, his, rfl, ru, True.intro⟩
  | p :: l, q :: vs, x :: xs, hx => ⟨hx.1, hx.2.1, hx.2.2.1, hx.2.2.2.1, XsOk.push hk his ru hx.2.2.2.2⟩
theorem stored_ok {h : Heap} {l l' : List (D × D)} {vs : List (V × V)} {xs : List (NestedKey × Addr × Value)} {e e' : Nat} {y d : D} {v : V} {k : NestedKey} {ya : Addr} {u : Value} (hx : XsOk X h l vs xs) (hn : (l.map fun p => keyOf p.1).Nodup) (rp : RepP X.K φ H l vs)
    (hk : keyOf y = some k) (his : (nestedKind X.prog X.w).is h k ya) (ry : Rep X.K φ H y (.ref ya)) (rd : Rep X.K φ H d v) (ru : RelV v u) (hp : dPut e l y d = some (e', l')) :
    (l'.map fun p => keyOf p.1).Nodup ∧ ∃ vs', XsOk X h l' vs' (storedH xs k ya u) ∧ RepP X.K φ H l' vs' := by
  unfold dPut at hp
  split at hp
  · rw [Option.bind_eq_some_iff] at hp
    obtain ⟨k', hk', hp⟩ := hp
    obtain ⟨t3, _⟩ := tKey_is hk'
    rw [hk] at t3
    cases t3
    have hxn := xs_nodup hx hn
    cases hj : dIx l k with
    | some j =>
      rw [hj] at hp
      cases hp
      obtain ⟨q, hq, hkq⟩ : ∃ q, l[j]? = some q ∧ keyOf q.1 = some k := by
        unfold dIx at hj
        obtain ⟨hlt, hpp, _⟩ := List.findIdx?_eq_some_iff_getElem.mp hj
        exact ⟨l[j], List.getElem?_eq_getElem hlt, of_decide_eq_true hpp⟩
      have hkeys := hx.keys
      obtain ⟨x, hxj, hxk⟩ : ∃ p, xs[j]? = some (k, p) ∧ True := by
        have h1 : (l.map fun p => keyOf p.1)[j]? = some (some k) := by rw [List.getElem?_map, hq, ← hkq]; rfl
        rw [hkeys, List.getElem?_map, List.getElem?_map] at h1
        cases hz : xs[j]? with
        | none => rw [hz] at h1; cases h1
        | some z =>
          rw [hz] at h1
          obtain ⟨zk, zp⟩ := z
          have : zk = k := by simpa using h1
          subst this
          exact ⟨zp, rfl, trivial⟩
      refine ⟨by rw [keys_mod]; exact hn, vs.modify j fun q => (q.1, v), ?_, rp.mod rd j⟩
      have e1 : storedH xs k ya u = xs.modify j fun x => (x.1, x.2.1, u) := by
        rw [storedH_old (atKey_of_get hxn hxj)]
        have := modify_map_putAt (f := fun x : NestedKey × Addr × Value => x) (g := fun x => (x.1, x.2.1, u)) k u (fun _ _ => rfl) hxn hxj
        simp only [List.map_id'] at this
        exact this.symm
      rw [e1]
      exact hx.mod ru j
    | none =>
      rw [hj] at hp
      cases hp
      refine ⟨nodup_push hn hk hj, vs ++ [(.ref ya, v)], ?_, rp.push ry rd⟩
      have hat : atKey xs k = none := by
        refine atKey_none_of_get fun j p hjp => ?_
        obtain ⟨kd, d', v', f1, f2, _, _⟩ := hx.get hjp
        rw [dIx_of hn f1 f2] at hj
        cases hj
      rw [storedH_new hat]
      exact hx.push hk his ru
  · cases hp
theorem storedAll_ok {h : Heap} : ∀ {r : List (D × D)} {ws : List (V × V)} {ys : List (NestedKey × Addr × Value)} {l l' : List (D × D)} {vs : List (V × V)} {xs : List (NestedKey × Addr × Value)} {e e' : Nat}, XsOk X h r ws ys → RepP X.K φ H r ws → XsOk X h l vs xs → (l.map fun p => keyOf p.1).Nodup → RepP X.K φ H l vs → dPuts e l r = some (e', l') →
    (l'.map fun p => keyOf p.1).Nodup ∧ ∃ vs', XsOk X h l' vs' (storedAllH xs ys) ∧ RepP X.K φ H l' vs'
  | [], [], [], l, l', vs, xs, e, e', _, _, hx, hn, rp, hp => by
    unfold dPuts at hp
    cases hp
    exact ⟨hn, vs, hx, rp⟩
  | p :: r, q :: ws, y :: ys, l, l', vs, xs, e, e', hy, rr, hx, hn, rp, hp => by
    unfold dPuts at hp
    rw [Option.bind_eq_some_iff] at hp
    obtain ⟨⟨e1, l1⟩, h1, h2⟩ := hp
    obtain ⟨pk, pd⟩ := p
    cases rr with
    | cons ra rb rc =>
      have hq : _ = V.ref y.2.1 := hy.2.2.1
      simp only at hq
      subst hq
      obtain ⟨n1, vs1, g1, g2⟩ := stored_ok (φ := φ) (H := H) hx hn rp hy.1 hy.2.1 ra rb hy.2.2.2.1 h1
      have := storedAll_ok (xs := storedH xs y.1 y.2.1 y.2.2) hy.2.2.2.2 rc g1 n1 g2 h2
      exact this
  | [], _ :: _, _, _, _, _, _, _, _, hy, _, _, _, _, _ => False.elim hy
  | [], [], _ :: _, _, _, _, _, _, _, hy, _, _, _, _, _ => False.elim hy
  | _ :: _, [], _, _, _, _, _, _, _, hy, _, _, _, _, _ => False.elim hy
  | _ :: _, _ :: _, [], _, _, _, _, _, _, hy, _, _, _, _, _ => False.elim hy
theorem dPuts_len : ∀ {r : List (D × D)} {e e' : Nat} {l l' : List (D × D)}, l.length ≤ lim → dPuts e l r = some (e', l') → l'.length ≤ lim
  | [], e, e', l, l', h, hp => by
    unfold dPuts at hp
    cases hp
    exact h
  | p :: r, e, e', l, l', h, hp => by
    unfold dPuts at hp
    rw [Option.bind_eq_some_iff] at hp
    obtain ⟨⟨e1, l1⟩, h1, h2⟩ := hp
    refine dPuts_len ?_ h2
    unfold dPut at h1
    split at h1
    · rename_i hl
      rw [Option.bind_eq_some_iff] at h1
      obtain ⟨k, _, h1⟩ := h1
      split at h1
      · cases h1
        rw [List.length_modify]
        exact h
      · cases h1
        rw [List.length_append]
        exact hl
    · cases h1
mutual
theorem hash0_is (w : World) : ∀ k : NestedKey, noTx k = true → k.hash w = hash0 k
  | .none, _ => rfl
  | .num _, _ => rfl
  | .text _, h => by simp [noTx] at h
  | .tup ks, h => by
    simp only [noTx] at h
    simp only [NestedKey.hash, hash0, hashs0_is w ks h]
theorem hashs0_is (w : World) : ∀ ks : List NestedKey, noTxs ks = true → NestedKey.hashes w ks = hashs0 ks
  | [], _ => rfl
  | k :: ks, h => by
    simp only [noTxs, Bool.and_eq_true] at h
    simp only [NestedKey.hashes, hashs0, hash0_is w k h.1, hashs0_is w ks h.2]
end
theorem hashs_nodup {h : Heap} {r : List (D × D)} {ws : List (V × V)} {ys : List (NestedKey × Addr × Value)} (hy : XsOk X h r ws ys) (hh : hashsOk r = true) : (ys.map fun x => (nestedKind X.prog X.w).hash x.1).Nodup := by
  unfold hashsOk at hh
  rw [Bool.and_eq_true, decide_eq_true_eq] at hh
  obtain ⟨h1, h2⟩ := hh
  have key : ∀ {r : List (D × D)} {ws : List (V × V)} {ys : List (NestedKey × Addr × Value)}, XsOk X h r ws ys → (r.all fun p => match keyOf p.1 with | some k => noTx k | none => false) = true →
      (ys.map fun x => (nestedKind X.prog X.w).hash x.1) = r.map fun p => match keyOf p.1 with | some k => hash0 k | none => 0 := by
    intro r
    induction r with
    | nil =>
      intro ws ys hy _
      cases ws <;> cases ys <;> first | rfl | exact False.elim hy
    | cons p r ih =>
      intro ws ys hy ha
      cases ws with
      | nil => exact False.elim hy
      | cons q ws =>
        cases ys with
        | nil => exact False.elim hy
        | cons y ys =>
          rw [List.all_cons, Bool.and_eq_true] at ha
          rw [List.map_cons, List.map_cons, ih hy.2.2.2.2 ha.2]
          have h3 := ha.1
          rw [hy.1] at h3 ⊢
          simp only at h3 ⊢
          rw [show (nestedKind X.prog X.w).hash y.1 = y.1.hash X.w from rfl, hash0_is X.w _ h3]
  rw [key hy h1]
  exact h2
theorem nested_tuple {h : Heap} {k : NestedKey} {a : Addr} (x : NestedIs h k (.ref a)) : ∃ o, h.get? a = some o ∧ o.cls = .type "tuple" := by
  cases x with
  | tup h1 h2 h3 h4 => exact ⟨_, h1, h2⟩
/-- d.update(x) -/
theorem d_upd {M M' : List D} {n : Nat} {x : D} {xv yv : V} {v u : Value} {E : Value → Shared → Prop} {Q : Value → Shared → Prop} {A : Around} (hA : (nestedKind X.prog X.w).room A.in1) (hw : TabC.w = X.w) (I : Inv X pins σ H s) (m : MH X.K φ H M) (ra : Rep X.K φ H (.ref n) xv) (rb : Rep X.K φ H x yv) (rx : RelV xv v) (ry : RelV yv u) (hp : updS M (.ref n) x = some M')
    (h : ∀ s' H', Inv X pins σ H' s' → Ext φ H φ H' → MH X.K φ H' M' → Q .none s') : wpAny (model X.prog X.w) A (call (.builtin "dict.update") [v, u]) Q E s := by
  cases x with
  | dct e2 r =>
    unfold updS at hp
    simp only at hp
    split at hp
    · rename_i e l hc
      obtain ⟨a, o, es, ep, vs, rfl, hn, h2, h3, hq, h5, h6⟩ := dplace m ra hc
      cases (show v = Value.ref a from rx)
      cases rb with
      | @dct b o2 es2 ep2 _ _ ws k1 k2 k3 k4 k5 =>
        cases (show u = Value.ref b from ry)
        split at hp
        · rename_i hcond
          simp only [Bool.and_eq_true, decide_eq_true_eq] at hcond
          obtain ⟨t1, t2, hsz⟩ := hcond
          obtain ⟨xs, e1, g1⟩ := xs_of hw I h5.2 h6 t1
          obtain ⟨ys, e2', g2⟩ := xs_of hw I k4.2 k5 t2
          have hxl : xs.length = l.length := by
            have := congrArg List.length g1.keys
            simpa using this.symm
          have hyl : ys.length = r.length := by
            have := congrArg List.length g2.keys
            simpa using this.symm
          have hab : a ≠ b := fun z => k2.1 (by rw [← z]; exact List.mem_of_getElem? hn)
          have D1 : s.heap.DictOfH (nestedKind X.prog X.w) a xs := ⟨o, es, ep, exO_at I h2, h3.ex, h3.dat, e1, g1.is, xs_nodup g1 h5.1⟩
          have D2 : s.heap.DictOfH (nestedKind X.prog X.w) b ys := ⟨o2, es2, ep2, exO_at I k1, k3.ex, k3.dat, e2', g2.is, xs_nodup g2 k4.1⟩
          have fin : ∀ {l' : List (D × D)} {vs' : List (V × V)} {zs : List (NestedKey × Addr × Value)} {h' : Heap}, (l'.map fun p => keyOf p.1).Nodup → XsOk X s.heap l' vs' zs → RepP X.K φ H l' vs' → l'.length ≤ lim → h'.DictOfH (nestedKind X.prog X.w) a zs → Heap.SameBut a s.heap h' → M' = M.set n (.dct 0 l') → Q .none { s with heap := h' } := by
            intro l' vs' zs h' hn' hx' rp' hl' dd hs hM
            obtain ⟨o', es', ep', f1, f2, f3, f4, f5, f6⟩ := dd
            have hzl : zs.length = l'.length := by
              have := congrArg List.length hx'.keys
              simpa using this.symm
            obtain ⟨z1, z2, z3⟩ := put_place (e' := 0) (t' := s.toks) I m hn h2 hs f1 (⟨f2, f3, h3.low, by rw [size_of_entries f4, hzl]; exact hl'⟩ : RawD a o' es' ep') (.inl rfl) ⟨hn', by rw [f4]; exact ents_of_xs hw hx'⟩ rp'
            exact h _ _ z1 z2 (by rw [hM]; exact z3)
          cases l with
          | nil =>
            simp only at hp
            have hx0 : xs = [] := by
              cases xs with
              | nil => rfl
              | cons _ _ => simp at hxl
            subst hx0
            split at hp
            · rename_i hh
              cases hp
              have hnd := hashs_nodup g2 hh
              refine call_update_dictH hA hab k3.low D1 D2 (.inr ⟨fun z hz => ?_, hnd⟩) (by rw [hxl, hyl]; exact hsz) fun h' d1 d2 hs => ?_
              · obtain ⟨o', q1, q2⟩ := nested_tuple (g2.is z hz).1
                exact ⟨o', q1, q2⟩
              · rw [storedAllH_nil_of_nodup ys (xs_nodup g2 k4.1)] at d1
                exact fin k4.1 g2 k5 (by rw [List.length_nil, Nat.zero_add] at hsz; exact hsz) d1 hs rfl
            · cases hp
          | cons p l =>
            simp only [Option.map_eq_some_iff] at hp
            obtain ⟨⟨e', l'⟩, hp, rfl⟩ := hp
            obtain ⟨n1, vs', g3, g4⟩ := storedAll_ok g2 k5 g1 h5.1 h6 hp
            refine call_update_dictH hA hab k3.low D1 D2 (.inl fun z => ?_) (by rw [hxl, hyl]; exact hsz) fun h' d1 d2 hs => ?_
            · subst z
              simp at hxl
            · refine fin n1 g3 g4 ?_ d1 hs rfl
              exact dPuts_len (by omega) hp
        · cases hp
    · cases hp
  | _ => cases hp
end
end MP
/-! MiniPy D8: the expression d.update(x). -/
namespace MP
open PySem PySem.Spec PyProof.Rows L2
variable [TabC]
def rUpdN (K : PySem.W.Frag) : V → List V → Hp → VK → Prop := fun x xs H Q => ∃ φ M n y M', MH K φ H M ∧ Rep K φ H (.ref n) x ∧ Reps K φ H [y] xs ∧ updS M (.ref n) y = some M' ∧ ∀ φ' H' v, Ext φ H φ' H' → MH K φ' H' M' → Rep K φ' H' .non v → Q v H'
section
variable {X : Cx}
theorem mt_upd (hu : X.A.units + 64 < cLine) (hw : TabC.w = X.w) : MtR X "dict.update" (rUpdN X.K) := by
  intro pins s σ H x xs v us Q I rx rv h
  obtain ⟨φ, M, n, y, M', m, r1, r2, hs, q⟩ := h
  cases r2 with
  | cons ry r2 =>
    cases r2
    obtain ⟨u1, rfl, v1⟩ := vals1 rv
    exact d_upd (room8 hu) hw I m r1 ry rx v1 hs fun s' H' I' e m' => ⟨.non, H', I', rfl, q φ H' .non e m' .non⟩
end
section
variable {X : Cx} {W : WX} {cl : Cl} {o a b : Expr} {mo ma mb : E} {apos pos : Pos}
theorem me_updt (hu : X.A.units + 64 < cLine) (hw : TabC.w = X.w) (ho : PE X o (tE X.K W (evE cl mo))) (ha : PE X a (tE X.K W (evE cl ma)))
    (hbase : attributeBase o "update" X.env (eval o X.env) = eval o X.env)
    (hfew : ((backTo pos (starEach [a] X.env)).all (fun x => !x.1) && (backToKw pos (keywordEach [] X.env)).all (fun x => x.1.isSome)
      && decide ([a].length + ([] : List Keyword).length + (if ([] : List Keyword).isEmpty then 0 else 1) < 30)) = true)
    (hline : (apos.endLine == pos.line) = true) (he2 : starEach [a] X.env = (false, eval a X.env) :: starEach [] X.env) (hplain : (backTo pos (starEach [] X.env)).any (·.1) = false) :
    PE X (.Call (.Attribute o "update" apos) [a] [] pos) (tE X.K W (evE cl (.updt mo ma))) := by
  refine imp_PE (pe_bmd F.slot_dict_update F.type_dict_update (mt_upd hu hw) ho (pa_cons ha pa_nil he2) hbase hfew hline he2 hplain) fun σ H Q h => ?_
  obtain ⟨L, φ, M, lr, mh, p⟩ := h
  refine tE_use lr mh (PR.bind (show PR X.K W σ φ H ((evE cl mo L M).bind fun x M1 => if isDr M1 x then (evE cl ma L M1).bind fun y M2 => (match updS M2 x y with | some M3 => .ok D.non M3 | none => .bad) else .bad) _ from p)) fun x M1 φ1 H1 v e1 m1 g1 r1 => ?_
  split at g1
  · rename_i hd
    obtain ⟨n, d, k, ep, rfl, rfl, dat⟩ := isDr_at m1 r1 hd
    refine ⟨⟨d, k, ep, rfl, dat⟩, ?_⟩
    refine tE_use (lr.ext e1) m1 g1.bind fun y M2 φ2 H2 v2 e2 m2 g2 r2 => ?_
    split at g2
    · rename_i M3 hs
      exact ⟨φ2, M2, n, y, M3, m2, Rep.ext e2 _ _ r1, .cons r2 .nil, hs, fun φ' H' v e m r => g2 φ' H' e m v r⟩
    · exact False.elim g2
  · exact False.elim g1
end
end MP
/-! MiniPy 9: enumerate of a tuple, or of a list. -/
namespace MP
open PySem PySem.Spec PyProof.Rows L2
variable [TabC]
open AutoSeq1 (wpAny_loadPart')

theorem meets_enumerate_newT (l : Addr) (items : Array Value) (n : Nat) (dct : Option Addr) (sl : Array (Option Value)) :
    Meets (Builtin.«enumerate.__new__» ⟨[.type "enumerate", .ref l], []⟩) (fun _ R s => s.heap.get? l = some { cls := .type "tuple", dict := dct, data := .seq items n, slots := sl } ∧
      R (.ok (.ret (.ref (s.heap.push { cls := .type "tuple_iterator", data := .fields #[.ref l, .int 0 0] }).objs.size)))
        { s with heap := (s.heap.push { cls := .type "tuple_iterator", data := .fields #[.ref l, .int 0 0] }).push { cls := .type "enumerate", data := .fields #[.none, .bool false, .ref s.heap.objs.size, rawInt 0, .none, .none] } }) :=
  .of_wp fun prog w A R s h => by
    obtain ⟨hp, g, d, tk, os⟩ := s; obtain ⟨hl, h⟩ := h
    have hsub := sub_enumerate
    have hL : Heap.IsTuple (Shared.heap ⟨hp, g, d, tk, os⟩) l items := ⟨_, hl, rfl, n, rfl⟩
    wp_walk using wpAny_loadPart' hl
    refine wpAny_stack_any fun st => wpAny_pure ?_
    split
    · rename_i c _ _ _ _ _
      cases (c == Value.type "enumerate")
      · wp_walk using wpAny_loadPart' hl, wpAny_pyIter_tuple hL
        exact ⟨_, rfl, h⟩
      · wp_walk using wpAny_loadPart' hl, wpAny_pyIter_tuple hL
        exact ⟨_, rfl, h⟩
    · wp_walk using wpAny_loadPart' hl, wpAny_pyIter_tuple hL
      exact ⟨_, rfl, h⟩
section
variable {prog : Program} {w : World} {A : Around} {E : Value → Shared → Prop} {s : Shared}
theorem call_enumerate_tuple {l : Addr} {items : Array Value} {Q : Value → Shared → Prop} (hL : s.heap.IsTuple l items)
    (h : ∀ h', IsEnum h' (s.heap.objs.size + 1) s.heap.objs.size 0 .none → h'.IsTupleIter s.heap.objs.size l 0 → h'.objs.size = s.heap.objs.size + 2 →
      (∀ b o, s.heap.get? b = some o → h'.get? b = some o) → Q (.ref (s.heap.objs.size + 1)) { s with heap := h' }) :
    wpAny (model prog w) A (call (.type "enumerate") [.ref l]) Q E s := by
  obtain ⟨⟨c, dct, dt, sl⟩, hl, hc, n, hd⟩ := hL
  replace hc : c = .type "tuple" := hc
  replace hd : dt = .seq items n := hd
  subst hc hd
  refine callType_new F.called_enumerate (by decide) (F.typeCall_enumerate_1 _) (F.newCall_enumerate_1 _) (fun obj => F.args_object_init_2 obj _) F.entry_enumerate_new
    (meets_enumerate_newT l items n dct sl) ⟨hl, ?_⟩
  have hz : (s.heap.push { cls := .type "tuple_iterator", data := .fields #[.ref l, .int 0 0] }).objs.size = s.heap.objs.size + 1 := Heap.size_push ..
  show _ ∧ _
  rw [hz]
  have he : IsEnum ((s.heap.push { cls := .type "tuple_iterator", data := .fields #[.ref l, .int 0 0] }).push
      { cls := .type "enumerate", data := .fields #[.none, .bool false, .ref s.heap.objs.size, rawInt 0, .none, .none] }) (s.heap.objs.size + 1) s.heap.objs.size 0 .none := by
    have := Heap.get?_push_size (s.heap.push { cls := .type "tuple_iterator", data := .fields #[.ref l, .int 0 0] })
      (o := { cls := .type "enumerate", data := .fields #[.none, .bool false, .ref s.heap.objs.size, rawInt 0, .none, .none] }) rfl
    rw [hz] at this; exact this
  refine ⟨⟨_, he, rfl⟩, h _ he ⟨_, Heap.get?_push_of_some _ (Heap.get?_push_size _ rfl), rfl, rfl⟩ (by rw [Heap.size_push, hz]) fun b o x => Heap.get?_push_of_some _ (Heap.get?_push_of_some _ x)⟩
theorem enum_endT {e it l : Addr} {i : Nat} {items : Array Value} {old : Value} {Q : Option Value → Shared → Prop} (hh : A.handled = none)
    (he : IsEnum s.heap e it i old) (hit : s.heap.IsTupleIter it l i) (hl : s.heap.IsTuple l items) (hx : items[i]? = none)
    (hQ : ∀ h', Heap.ExtBut it s.heap h' → Q none { s with heap := h' }) : wpAny (model prog w) A (pyNext (.ref e)) Q E s := by
  have hT : s.TypeIs (.ref e) "enumerate" := ⟨_, he, rfl⟩
  unfold pyNext
  refine wpAny_bind (wpAny_attempt (wpAny_callSpecial?_slot (name := Str.ofString "__next__") hT F.slot_enumerate_next
    (wpAny_call_entry F.slot_enumerate_next hT F.entry_enumerate_next ?_ (F.args_enumerate_next_1 _))))
  show wpAny _ _ (field (.ref e) 2 >>= _) _ _ _
  refine wpAny_bind (wpAny_field he rfl (x := .ref it) rfl ?_)
  refine wpAny_bind (wpAny_nextOf_tuple_end hh hit hl hx fun h' x he' hx' => ?_)
  obtain ⟨o, ho, hc⟩ := hx'
  refine wpAny_bind (wpAny_isInstance (T := "StopIteration") (b := true) ⟨o, ho, hc⟩ isSubtype_stop ?_)
  exact wpAny_pure (hQ _ he')
end
/-- the tuple at a, each item in a new pair -/
def IteT (K : PySem.W.Frag) (a : Addr) : It :=
  ⟨fun i H => ∃ (xs : List V) (x : V), SqT K H a xs ∧ xs[i]? = some x, fun i H v H' => ∃ T x, v = .ref T ∧ H T = none ∧ H' = upd H T (.tup [.int (i : Nat), x]) ∧ ∀ xs, SqT K H a xs → xs[i]? = some x, fun i H => ∃ xs : List V, SqT K H a xs ∧ xs.length ≤ i⟩
theorem turn_enumT {P : Program} {w : World} {K : PySem.W.Frag} {elts : List Expr} {kk : Nat} {tpos : Pos} (a e it : Addr) (hea : a < it) :
    Turn P w K (.Tuple elts kk tpos) (IteT K a) [e, it] e (fun i h => (∃ old, IsEnum h e it ((i : Nat) : Int) old) ∧ h.IsTupleIter it a i ∧ e ≠ it ∧ e ≠ a) where
  mem := by simp
  obj := fun i h st b hb => by
    obtain ⟨⟨old, he⟩, ⟨o, ho, hc, hd⟩, _⟩ := st
    have e' : b = e ∨ b = it := by simpa using hb
    rcases e' with z | z
    · rw [z]; exact ⟨_, he, fun v q => nomatch q⟩
    · rw [z]; exact ⟨o, ho, fun v q => by rw [hd] at q; cases q⟩
  keep := fun i h h' st k => let ⟨⟨old, he⟩, hi, hne⟩ := st; ⟨⟨old, k e (by simp) _ he⟩, hi.at fun o q => k it (by simp) o q, hne⟩
  item := by
    intro X hP hw hK hc i pins s σ H E I hf st hg
    subst hP hw hK
    obtain ⟨⟨old, he⟩, hit, hne, hna⟩ := st
    obtain ⟨xs, x, hq, hx⟩ := hg
    obtain ⟨its, rv, p, hz⟩ := I.tuple hq
    obtain ⟨u, hu, ru⟩ := rv.get hx
    have hel : e < s.heap.objs.size := Heap.lt_size he
    have hil : it < s.heap.objs.size := by obtain ⟨_, q, _⟩ := hit; exact Heap.lt_size q
    have hlt : i < its.toArray.size := by
      have := (List.getElem?_eq_some_iff.mp hu).1
      simpa using this
    refine wpAny_pyNext_enum_itemD (Draws.tuple (by rw [show X.A.in1.handled = X.A.handled from rfl]; exact I.ok.hd hc) it a (Nat.ne_of_lt hea) its.toArray) he ⟨hit, p⟩ hlt hne (by simp [hne, hna]) fun x' h' tk hP ho hit' hT hsz hk => ?_
    have exu : x' = u := by
      have hP' : its.toArray[i]? = some x' := hP
      rw [List.getElem?_toArray, hu] at hP'
      cases hP'
      rfl
    subst exu
    refine ⟨_, rfl, wpAny_letOwnedTupleGo_enum (s := { s with heap := h', toks := tk + 1 }) ho fun h'' he' sb => ?_⟩
    have hT2 : h''.get? s.heap.objs.size = some { cls := .type "tuple", data := .seq #[.int i tk, x'] } := (sb.2 _ (Nat.ne_of_gt hel)).trans hT
    have new : ObjOk X.prog X.w (upd H s.heap.objs.size (.tup [.int (i : Nat), x])) h'' s.heap.objs.size (.tup [.int (i : Nat), x]) :=
      ⟨by show 2 ≤ sizeLine; decide, [.int i tk, x'], .cons ⟨_, rfl⟩ (.cons ru .nil), ⟨_, hT2, rfl, _, rfl⟩⟩
    have I1 : Inv X pins σ (upd H s.heap.objs.size (.tup [.int (i : Nat), x])) { s with heap := h'', toks := tk + 1 } :=
      I.turnedNew (ch := [e, it]) (fun b ob hb q => (sb.2 b (fun z => hb (by simp [z]))).trans (hk b ob (fun z => hb (by simp [z])) (fun z => hb (by simp [z])) q)) hf (Nat.le_refl _) new
    refine ⟨.ref s.heap.objs.size, _, I1, rfl, ⟨_, x, rfl, I.hok.fresh (Nat.le_refl _), rfl, fun ys hy => by rw [I.tuple_inj hy hq]; exact hx⟩, ⟨⟨x', ?_⟩, hit'.1.at fun o q => (sb.2 it (Ne.symm hne)).trans q, hne, hna⟩, fun b hb => ?_⟩
    · have e1 : ((i + 1 : Nat) : Int) = (i : Int) + 1 := by omega
      rw [e1]; exact he'
    · have hb' : b < s.heap.objs.size := by
        have e' : b = e ∨ b = it := by simpa using hb
        rcases e' with z | z
        · rw [z]; exact hel
        · rw [z]; exact hil
      rw [upd_ne (Nat.ne_of_lt hb')]
      exact (hf b hb).1
  done := by
    intro X hP hw hK hc i pins s σ H E I hf st hg
    subst hP hw hK
    obtain ⟨⟨old, he⟩, hit, hne, hna⟩ := st
    obtain ⟨xs, hq, hx⟩ := hg
    obtain ⟨its, rv, p, hz⟩ := I.tuple hq
    obtain ⟨f0, f1, f2, f3, f4, f5⟩ := hf it (by simp)
    have hl := rv.length
    exact enum_endT (I.ok.hd hc) he hit p (by simp; omega) fun h' eb => ⟨rfl, I.turned (t' := s.toks) (fun b o hb q => eb b o hb q) f0 f1 f3 f4 f5⟩
  self := fun A i s Q E st h => let ⟨⟨_, he⟩, _⟩ := st; wpAny_pyIter_enum he h
def iEnumA (K : PySem.W.Frag) (ta : TA) : TI := fun σ H R => ta σ H fun vs H1 => ∃ a xs, vs = [.ref a] ∧ ((SqL K H1 a xs ∧ R (Ite K a) H1) ∨ (SqT K H1 a xs ∧ R (IteT K a) H1))
theorem pi_enumA {X : Cx} {e : Expr} {ta : TA} {p pos tpos : Pos} {elts : List Expr} {kk : Nat} (hg : Gl X "enumerate") (hm : X.mg "enumerate" = none) (ha : PA X [e] ta) (hs : starEach [e] X.env = [(false, eval e X.env)]) :
    PI X (.Tuple elts kk tpos) (.Call (.Name "enumerate" p) [e] [] pos) (iEnumA X.K ta) := by
  refine ⟨fun pins s σ H R I h => ?_⟩
  refine Call_ (ld_blt I hg hm boot_enumerate (PyProof.Rows.callWith_type1 (thn (ha.run pos pins s σ H _ I h) fun us s1 ⟨vs, H1, I1, r1, q1⟩ => ?_) hs rfl))
  obtain ⟨a, xs, ex, q1⟩ := q1
  subst ex
  cases r1 with
  | cons r rr =>
    cases rr
    cases r
    have fresh2 : ∀ b, b ∈ [s1.heap.objs.size + 1, s1.heap.objs.size] → FpOk X pins H1 b := fun b hb => by
      have e' : b = s1.heap.objs.size + 1 ∨ b = s1.heap.objs.size := by simpa using hb
      have hle : s1.heap.objs.size ≤ b := by
        rcases e' with z | z
        · rw [z]; exact Nat.le_add_right _ _
        · rw [z]; exact Nat.le_refl _
      exact I1.fpOk hle (I1.hok.fresh hle)
    rcases q1 with ⟨hq, q⟩ | ⟨hq, q⟩
    · obtain ⟨its, rv, p', hz⟩ := I1.list hq
      refine call_enumerate_list p'.isList fun h' he hit hsz hk => wpAny_pyIter_enum he ?_
      have I2 : Inv X pins σ H1 { s1 with heap := h' } := I1.kept (t' := s1.toks) hk
      exact ⟨s1.heap.objs.size + 1, [s1.heap.objs.size + 1, s1.heap.objs.size], _, _, H1, rfl, I2, turn_enum a (s1.heap.objs.size + 1) s1.heap.objs.size, ⟨⟨.none, he⟩, hit, Nat.succ_ne_self _⟩, fresh2, q⟩
    · obtain ⟨its, rv, p', hz⟩ := I1.tuple hq
      have hlt : a < s1.heap.objs.size := by
        obtain ⟨_, q, _⟩ := id p'
        exact Heap.lt_size q
      refine call_enumerate_tuple p' fun h' he hit hsz hk => wpAny_pyIter_enum he ?_
      have I2 : Inv X pins σ H1 { s1 with heap := h' } := I1.kept (t' := s1.toks) hk
      exact ⟨s1.heap.objs.size + 1, [s1.heap.objs.size + 1, s1.heap.objs.size], _, _, H1, rfl, I2, turn_enumT a (s1.heap.objs.size + 1) s1.heap.objs.size hlt, ⟨⟨.none, he⟩, hit, Nat.succ_ne_self _, Nat.ne_of_gt (Nat.lt_succ_of_lt hlt)⟩, fresh2, q⟩
section
variable {K : PySem.W.Frag} {φ φ1 φ2 : Ph} {H H1 H2 : Hp}
theorem wk_enumT {a : Addr} {l : List D} (h : ∀ φ H, Ex1 φ1 H1 φ H → ∃ xs, SqT K H a xs ∧ Reps K φ H l xs) : WkIs K φ1 H1 ⟨enumL 0 l, none⟩ (IteT K a) := by
  intro φ H M e m ok i
  obtain ⟨xs, sq, r⟩ := h φ H e
  refine ⟨fun hi => ⟨xs, sq, ?_⟩, fun d hd => ?_⟩
  · rw [← r.length, ← enumL_len l 0]
    exact hi
  · obtain ⟨x, hx, rfl⟩ := enumL_at hd
    obtain ⟨v, h1, h2⟩ := r.get hx
    refine ⟨⟨xs, v, sq, h1⟩, fun u H' y => ?_⟩
    obtain ⟨T, w, rfl, hT, rfl, y⟩ := y
    have ex : xs[i]? = some w := y xs sq
    rw [h1] at ex
    cases ex
    have e0 : ((0 : Int) + (i : Nat)) = (i : Nat) := by omega
    rw [e0]
    exact pair_new m hT (.int _) h2
end
section
variable {X : Cx} {W : WX} {cl : Cl} {a b c tg : Expr} {ma mb mc : E} {pos : Pos}
theorem mi_enum {p tpos : Pos} {elts : List Expr} {kk : Nat} (bn : BN X "enumerate") (ha : PE X a (tE X.K W (evE cl ma))) (he : starEach [a] X.env = (false, eval a X.env) :: starEach [] X.env) :
    PI X (.Tuple elts kk tpos) (.Call (.Name "enumerate" p) [a] [] pos) (tI X.K W (evI cl (.enum ma))) := by
  refine imp_PI' (pi_enumA bn.gl bn.none (pa_cons ha pa_nil he) (by rw [he]; rfl)) fun σ H Rr h => ?_
  obtain ⟨L, φ, M, lr, mh, p⟩ := h
  refine tE_use lr mh (PR.bind (show PR X.K W σ φ H ((evE cl ma L M).bind fun x M1 => match x with | .tup l => .ok (Wk.mk (enumL 0 l) none) M1 | .lst l => .ok (Wk.mk (enumL 0 l) none) M1 | _ => .bad) _ from p)) fun d M1 φ1 H1 v e1 m1 g1 r1 => ?_
  split at g1
  · obtain ⟨q, xs, rfl, sq, _⟩ := r1.sqT
    exact ⟨q, xs, rfl, .inr ⟨sq, g1.here m1 _ (wk_enumT fun φ H e => tup_later r1 e)⟩⟩
  · cases id r1 with
    | lst h1 h2 h3 => exact ⟨_, _, rfl, .inl ⟨SqL.of h1, g1.here m1 _ (wk_enumL fun φ H e => lst_later r1 e)⟩⟩
  · exact False.elim g1
end
end MP
/-! MiniPy 10: targets, list comprehensions. -/
namespace MP
open PySem PySem.Spec PyProof.Rows L2
variable [TabC]

/-! ### targets -/
def tgIx : Tg → List Nat
  | .name i => [i]
  | .tup is => is
def setAll (σ : L2.St) : List Nat → List V → L2.St
  | i :: is, v :: vs => setAll (σ.set i (some v)) is vs
  | _, _ => σ
def gT (K : PySem.W.Frag) (tg : Tg) : TG := fun v σ H Q => ∃ L φ M d L1, LR K φ H L σ ∧ MH K φ H M ∧ Rep K φ H d v ∧ asg tg d L = some L1 ∧ ∀ σ1, LR K φ H L1 σ1 → (∃ vals, σ1 = setAll σ (tgIx tg) vals) → Q σ1 H
def gsT (K : PySem.W.Frag) (is : List Nat) : TGs := fun vs σ H Q => ∃ L φ M ds L1, LR K φ H L σ ∧ MH K φ H M ∧ Reps K φ H ds vs ∧ asgs is ds L = some L1 ∧ ∀ σ1, LR K φ H L1 σ1 → (∃ vals, σ1 = setAll σ is vals) → Q σ1 H
theorem imp_PG {X : Cx} {e : Expr} {t t' : TG} (h : PG X e t) (i : ∀ v σ H Q, t' v σ H Q → t v σ H Q) : PG X e t' := ⟨fun pins s σ H v u Q I r q => h.run pins s σ H v u Q I r (i v σ H Q q)⟩
theorem imp_PGs {X : Cx} {e : List Expr} {t t' : TGs} (h : PGs X e t) (i : ∀ v σ H Q, t' v σ H Q → t v σ H Q) : PGs X e t' := ⟨fun pins s σ H v u Q I r q => h.run pins s σ H v u Q I r (i v σ H Q q)⟩
section
variable {X : Cx} {pos : Pos}
theorem mg_name {i : Nat} {x : Str} (hN : X.N.Nodup) (hi : X.N[i]? = some x) (hx : Loc X.env.scope x) (hf : X.fn x = true ∨ X.env.scope.names.lookup x = some .local) : PG X (.Name x pos) (gT X.K (.name i)) := by
  refine imp_PG (pg_name hN hi hx hf) fun v σ H Q h => ?_
  obtain ⟨L, φ, M, d, L1, lr, mh, r, ha, q⟩ := h
  cases ha
  exact q _ (lr.set i r) ⟨[v], rfl⟩
theorem mgs_nil : PGs X [] (gsT X.K []) := by
  refine imp_PGs pgs_nil fun vs σ H Q h => ?_
  obtain ⟨L, φ, M, ds, L1, lr, mh, r, ha, q⟩ := h
  cases r with
  | nil =>
    cases ha
    exact ⟨rfl, q _ lr ⟨[], rfl⟩⟩
  | cons _ _ => cases ha
theorem mgs_cons {i : Nat} {x : Str} {es : List Expr} {is : List Nat} (hN : X.N.Nodup) (hi : X.N[i]? = some x) (hx : Loc X.env.scope x) (hf : X.fn x = true ∨ X.env.scope.names.lookup x = some .local) (h2 : PGs X es (gsT X.K is))
    (hs : (assignEach (.Name x pos :: es) X.env).map (·.2) = assign (.Name x pos) X.env :: (assignEach es X.env).map (·.2)) : PGs X (.Name x pos :: es) (gsT X.K (i :: is)) := by
  refine imp_PGs (pgs_cons (pg_name hN hi hx hf) h2 hs) fun vs σ H Q h => ?_
  obtain ⟨L, φ, M, ds, L1, lr, mh, r, ha, q⟩ := h
  cases r with
  | nil => cases ha
  | @cons d v ds vs r1 r2 => exact ⟨v, vs, rfl, L.set i (some d), φ, M, ds, L1, lr.set i r1, mh, r2, ha, fun σ1 l ⟨vals, e⟩ => q σ1 l ⟨v :: vals, e⟩⟩
theorem asgs_len : ∀ {is : List Nat} {ds : List D} {L L1 : Lo}, asgs is ds L = some L1 → is.length = ds.length
  | [], [], _, _, _ => rfl
  | [], _ :: _, _, _, h => by cases h
  | _ :: _, [], _, _, h => by cases h
  | i :: is, d :: ds, L, L1, h => by
    have := asgs_len (is := is) (ds := ds) (L := L.set i (some d)) (L1 := L1) h
    simp [this]
theorem mg_tup {es : List Expr} {k : Nat} {is : List Nat} (hc : X.calm = true) (h : PGs X es (gsT X.K is)) (hn : (assignEach es X.env).length = is.length) (hst : (assignEach es X.env).findIdx? (·.1) = none) : PG X (.Tuple es k pos) (gT X.K (.tup is)) := by
  refine imp_PG (pg_tup (n := is.length) hc h hn hst) fun v σ H Q h => ?_
  obtain ⟨L, φ, M, d, L1, lr, mh, r, ha, q⟩ := h
  cases d with
  | tup l =>
    obtain ⟨a, xs, rfl, sq, r'⟩ := r.sqT
    exact ⟨a, xs, rfl, sq, by rw [← r'.length, asgs_len (show asgs is l L = some L1 from ha)], L, φ, M, l, L1, lr, mh, r', ha, q⟩
  | _ => cases ha
end

/-! ### forgetting -/
theorem wipe_get (σ : L2.St) : ∀ (vs : List Nat) (i : Nat), (L2.wipe σ vs)[i]? = if i ∈ vs then (if i < σ.length then some none else none) else σ[i]?
  | [], i => by simp [L2.wipe]
  | v :: vs, i => by
    show ((L2.wipe σ vs).set v none)[i]? = _
    rw [List.getElem?_set, wipe_length, wipe_get σ vs i]
    by_cases h : v = i
    · subst h
      by_cases hl : v < σ.length
      · simp [hl]
      · simp [hl]
    · by_cases hm : i ∈ vs
      · simp [h, hm]
      · have : ¬ i = v := fun e => h e.symm
        simp [h, hm, this]
theorem setAll_len : ∀ (is : List Nat) (vals : List V) (σ : L2.St), (setAll σ is vals).length = σ.length
  | [], _, _ => by simp [setAll]
  | _ :: _, [], _ => rfl
  | i :: is, v :: vs, σ => by
    show (setAll (σ.set i (some v)) is vs).length = _
    rw [setAll_len is vs]
    simp
theorem setAll_get : ∀ (is : List Nat) (vals : List V) (σ : L2.St) (j : Nat), j ∉ is → (setAll σ is vals)[j]? = σ[j]?
  | [], _, _, _, _ => by simp [setAll]
  | _ :: _, [], _, _, _ => rfl
  | i :: is, v :: vs, σ, j, h => by
    show (setAll (σ.set i (some v)) is vs)[j]? = _
    simp only [List.mem_cons, not_or] at h
    rw [setAll_get is vs _ j h.2, List.getElem?_set_ne (fun e => h.1 e.symm)]
theorem wipe_setAll {σ : L2.St} {vs is : List Nat} {vals : List V} (h : ∀ i ∈ is, i ∈ vs) : L2.wipe (setAll (L2.wipe σ vs) is vals) vs = L2.wipe σ vs := by
  apply List.ext_getElem?
  intro i
  rw [wipe_get, wipe_get, setAll_len, wipe_length]
  by_cases hm : i ∈ vs
  · simp [hm]
  · rw [if_neg hm, if_neg hm, setAll_get _ _ _ _ (fun z => hm (h i z)), wipe_get, if_neg hm]

/-! ### the list in the making -/
theorem nx_lst {xs : List V} : NX (.lst xs) := nx_by (fun _ z => (by cases z)) (fun _ z => (by cases z))
structure Bx (φ1 : Ph) (H1 : Hp) (δ : Addr) (φ : Ph) (H : Hp) : Prop where
  pre : ∃ t, φ1.f ++ t = φ.f
  bar : φ.b = δ :: φ1.b
  keep : ∀ b o, H1 b = some o → NT o → b ∉ φ1.f → H b = some o ∧ b ∉ φ.f
  out : δ ∉ φ.f
section
variable {K : PySem.W.Frag} {φ1 φ φ' : Ph} {H1 H H' : Hp} {δ : Addr} {M : List D}
theorem Bx.start {M : List MP.D} (m : MH K φ1 H1 M) (hD : H1 δ = none) {o : HO} : Bx φ1 H1 δ { φ1 with b := δ :: φ1.b } (upd H1 δ o) :=
  ⟨⟨[], by simp⟩, rfl, fun b u h _ n => ⟨by rw [upd_ne (ne_of_none h hD)]; exact h, n⟩, (m.notin hD).1⟩
theorem Bx.weak (x : Bx φ1 H1 δ φ H) (hD : H1 δ = none) : Ex1 φ1 H1 φ H :=
  ⟨x.pre, fun b o h nt n => ⟨(x.keep b o h nt n.1).1, (x.keep b o h nt n.1).2, by
    rw [x.bar]
    intro hm
    rcases List.mem_cons.mp hm with z | z
    · rw [z, hD] at h
      cases h
    · exact n.2 z⟩⟩
theorem Bx.next (x : Bx φ1 H1 δ φ H) (e : Ext φ H φ' H') {o : HO} (hD : H δ = some o) (hx : NT o) : Bx φ1 H1 δ φ' H' := by
  obtain ⟨t, e1⟩ := x.pre
  obtain ⟨t', e2⟩ := e.pre
  exact ⟨⟨t ++ t', by rw [← e2, ← e1, List.append_assoc]⟩, e.bar.trans x.bar, fun b u h nt n => e.keep b u (x.keep b u h nt n).1 nt (x.keep b u h nt n).2, (e.keep δ o hD hx x.out).2⟩
theorem Bx.put (x : Bx φ1 H1 δ φ H) (hD : H1 δ = none) (o : HO) : Bx φ1 H1 δ φ (upd H δ o) :=
  ⟨x.pre, x.bar, fun b u h nt n => ⟨by rw [upd_ne (ne_of_none h hD)]; exact (x.keep b u h nt n).1, (x.keep b u h nt n).2⟩, x.out⟩
theorem Bx.put1 (x : Bx φ1 H1 δ φ H) (o : HO) : Ex1 φ H φ (upd H δ o) :=
  ⟨⟨[], by simp⟩, fun b u h _ n => ⟨by
    rw [upd_ne (fun z => n.2 (by rw [x.bar, z]; exact List.mem_cons_self))]
    exact h, n⟩⟩
theorem Bx.putM {M : List MP.D} (x : Bx φ1 H1 δ φ H) (m : MH K φ H M) (o : HO) (no : NX o) : MH K φ (upd H δ o) M := by
  refine ⟨m.nd, m.len, fun b hb => ⟨(m.bar b hb).1, ?_⟩, ?_, fun n a d h1 h2 => ?_⟩
  · by_cases hbD : b = δ
    · subst hbD
      exact ⟨o, upd_same, no⟩
    · obtain ⟨u, hu, hx⟩ := (m.bar b hb).2
      exact ⟨u, by rw [upd_ne hbD]; exact hu, hx⟩
  · obtain ⟨_, u, hu, hx⟩ := m.bar δ (by rw [x.bar]; exact List.mem_cons_self)
    exact tabs_put m.tab hu hx fun b hb => upd_ne hb
  · refine (m.at_ n a d h1 h2).ex1 (x.put1 o) (upd_ne fun z => x.out ?_)
    rw [← z]
    exact List.mem_of_getElem? h1
/-- the heap without the list -/
def dropA (H : Hp) (δ : Addr) : Hp := fun b => if b = δ then none else H b
theorem dropA_upd {o : HO} (h : H δ = some o) : upd (dropA H δ) δ o = H := by
  funext b
  by_cases hb : b = δ
  · subst hb
    rw [upd_same, h]
  · rw [upd_ne hb]
    exact if_neg hb
theorem Bx.fin (x : Bx φ1 H1 δ φ H) (hD : H1 δ = none) : Ext φ1 H1 { φ with b := φ1.b } (dropA H δ) :=
  ⟨x.pre, rfl, fun b o h nt n => ⟨by
    show (if b = δ then none else H b) = _
    rw [if_neg (ne_of_none h hD)]
    exact (x.keep b o h nt n).1, (x.keep b o h nt n).2⟩⟩
theorem Bx.fin1 (x : Bx φ1 H1 δ φ H) : Ex1 φ H { φ with b := φ1.b } (dropA H δ) :=
  ⟨⟨[], by simp⟩, fun b o h _ n => ⟨by
    show (if b = δ then none else H b) = _
    rw [if_neg (fun z => n.2 (by rw [x.bar, z]; exact List.mem_cons_self))]
    exact h, n.1, fun hb => n.2 (by rw [x.bar]; exact List.mem_cons_of_mem _ hb)⟩⟩
theorem Bx.finM {M M1 : List MP.D} (x : Bx φ1 H1 δ φ H) (m1 : MH K φ1 H1 M1) (hD : H1 δ = none) (m : MH K φ H M) : MH K { φ with b := φ1.b } (dropA H δ) M := by
  refine ⟨m.nd, m.len, fun b hb => ?_, ?_, fun n a d h1 h2 => ?_⟩
  · obtain ⟨n1, u, hu, hx⟩ := m1.bar b hb
    have hbD : b ≠ δ := ne_of_none hu hD
    refine ⟨(x.keep b u hu hx.1 n1).2, u, ?_, hx⟩
    show (if b = δ then none else H b) = _
    rw [if_neg hbD]
    exact (x.keep b u hu hx.1 n1).1
  · obtain ⟨_, u, hu, hx⟩ := m.bar δ (by rw [x.bar]; exact List.mem_cons_self)
    exact tabs_put m.tab hu hx fun b hb => if_neg hb
  · refine (m.at_ n a d h1 h2).ex1 x.fin1 ?_
    show (if a = δ then none else H a) = _
    rw [if_neg fun z => x.out (by rw [← z]; exact List.mem_of_getElem? h1)]
end
theorem compL_nil {w : Wk} {tg : Tg} {L : Lo} {cnd elt : Lo → List D → R D} {M M2 : List D} {zs : List D} (h : compL w tg L cnd elt [] M = .ok zs M2) : w.ok M = true ∧ zs = [] ∧ M2 = M := by
  unfold compL at h
  split at h
  · cases h
    exact ⟨by assumption, rfl, rfl⟩
  · cases h
theorem compL_cons {w : Wk} {tg : Tg} {L : Lo} {cnd elt : Lo → List D → R D} {x : D} {r : List D} {M M2 : List D} {zs : List D} (h : compL w tg L cnd elt (x :: r) M = .ok zs M2) :
    w.ok M = true ∧ ∃ L1 c Mc k, asg tg x L = some L1 ∧ cnd L1 M = .ok c Mc ∧ truth Mc c = some k ∧ if k = true then ∃ y My zs', elt L1 Mc = .ok y My ∧ compL w tg L cnd elt r My = .ok zs' M2 ∧ zs = y :: zs' else compL w tg L cnd elt r Mc = .ok zs M2 := by
  unfold compL at h
  split at h
  · rename_i hok
    refine ⟨hok, ?_⟩
    split at h
    · cases h
    · rename_i L1 hL1
      obtain ⟨c, Mc, h1, h⟩ := bind_inv h
      obtain ⟨k, Mk, h2, h⟩ := bind_inv h
      obtain ⟨h2, rfl⟩ := ofO_inv h2
      refine ⟨L1, c, _, k, hL1, h1, h2, ?_⟩
      cases k with
      | true =>
        rw [if_pos rfl] at h ⊢
        obtain ⟨y, My, h3, h⟩ := bind_inv h
        obtain ⟨zs', Mz, h4, h⟩ := bind_inv h
        cases h
        exact ⟨y, My, zs', h3, h4, rfl⟩
      | false =>
        rw [if_neg Bool.false_ne_true] at h ⊢
        exact h
  · cases h
abbrev W0 : WX := fun _ _ _ _ => False
/-- where a comprehension stands before its i-th turn -/
def CS (K : PySem.W.Frag) (φ1 : Ph) (H1 : Hp) (δ : Addr) (w : Wk) (run : List MP.D → List MP.D → R (List MP.D)) (vs M2 : List MP.D) (i : Nat) (H : Hp) : Prop :=
  ∃ acc ys zs φ2 Mi, Bx φ1 H1 δ φ2 H ∧ MH K φ2 H Mi ∧ H δ = some (.lst acc) ∧ Reps K φ2 H ys acc ∧ acc.length ≤ i ∧ run (w.items.drop i) Mi = .ok zs M2 ∧ ys ++ zs = vs
theorem comp_run {K : PySem.W.Frag} {W : WX} {cl : Cl} {own : List Nat} {melt : E} {tg : Tg} {mi : I} {mcs : Es} {σ : L2.St} {H : Hp} {Q : VK} {tt : TT} (htt : ∀ σ H Q, tT K W0 (evC cl mcs) σ H Q → tt σ H Q) (hix : ∀ i ∈ tgIx tg, i ∈ own)
    (h : tN K W (evN cl (.comp own melt tg mi mcs)) σ H Q) : tLc (tI K W (evI cl mi)) (gT K tg) tt (tE K W0 (evE cl melt)) own σ H Q := by
  obtain ⟨L, φ, M, lr, mh, p⟩ := h
  refine ⟨L, φ, M, lr, mh, (PR.bind (show PR K W σ φ H ((evI cl mi L M).bind fun w M1 =>
      if w.items.length ≤ lim then ((compL w tg (wipe L own) (evC cl mcs) (evE cl melt) w.items M1).nx).bind fun vs M2 => .ok (D.lst vs) M2 else .bad) _ from p)).mono fun w M1 φ1 H1 e1 m1 g1 => ?_⟩
  intro J hJ δ hD
  split at g1
  · rename_i hlim
    cases hrun : compL w tg (wipe L own) (evC cl mcs) (evE cl melt) w.items M1 with
    | bad => rw [hrun] at g1; exact False.elim g1
    | exc c e M' => rw [hrun] at g1; exact False.elim g1
    | ok vs M2 =>
      rw [hrun] at g1
      replace g1 := show PR K W σ φ1 H1 (R.ok (D.lst vs) M2) (fun d M' φ' H' => ∀ (o : HO) (p : Addr), ObjIs K φ' H' d p o → H' p = none → Q (V.ref p) (upd H' p o)) from g1
      generalize hrn : (fun l M => compL w tg (wipe L own) (evC cl mcs) (evE cl melt) l M) = run at *
      have hr0 : run w.items M1 = .ok vs M2 := by rw [← hrn]; exact hrun
      refine ⟨fun i m H => m = w.items.length - i ∧ i ≤ w.items.length ∧ CS K φ1 H1 δ w run vs M2 i H, ⟨w.items.length, by simp, Nat.zero_le _, ?_⟩, ?_⟩
      · exact ⟨[], [], vs, { φ1 with b := δ :: φ1.b }, M1, Bx.start m1 hD, by
          have x := Bx.start (φ1 := φ1) (H1 := H1) (o := .lst []) m1 hD
          refine ⟨m1.nd, m1.len, fun b hb => ?_, m1.tab.ext fun b u hu => by rw [upd_ne (ne_of_none hu hD)]; exact hu, fun n a d h1 h2 => ?_⟩
          · rcases List.mem_cons.mp hb with z | z
            · rw [z]
              exact ⟨(m1.notin hD).1, _, upd_same, nx_lst⟩
            · obtain ⟨n, u, hu, hx⟩ := m1.bar b z
              exact ⟨n, u, by rw [upd_ne (ne_of_none hu hD)]; exact hu, hx⟩
          · refine (m1.at_ n a d h1 h2).ex1 (x.weak hD) (upd_ne fun z => (m1.notin hD).1 ?_)
            rw [← z]
            exact List.mem_of_getElem? h1, upd_same, .nil, Nat.zero_le _, hr0, rfl⟩
      · rintro i m H2 ⟨rfl, hi, acc, ys, zs, φ2, Mi, bx, m2, hDa, ra, hal, hr, hys⟩
        have hw := hJ φ2 H2 Mi (bx.weak hD) m2
        by_cases hlt : i < w.items.length
        · have hdrop : w.items.drop i = w.items[i] :: w.items.drop (i + 1) := List.drop_eq_getElem_cons hlt
          rw [hdrop, ← hrn] at hr
          obtain ⟨hok, L1, c, Mc, k, ha, hc, hk, hrest⟩ := compL_cons hr
          obtain ⟨_, hgo⟩ := hw hok i
          obtain ⟨go, hy⟩ := hgo w.items[i] (List.getElem?_eq_getElem hlt)
          refine .inr ⟨go, fun H' => CS K φ1 H1 δ w run vs M2 (i + 1) H', fun H' c => ⟨w.items.length - (i + 1), by omega, rfl, hlt, c⟩, fun x H' y => ?_⟩
          obtain ⟨e3, m3, r3⟩ := hy x H' y
          have lr3 : LR K φ2 H' (wipe L own) (L2.wipe σ own) := ((lr.ext e1).ex1 (bx.weak hD)).ext e3 |>.wipe own
          refine ⟨wipe L own, φ2, Mi, w.items[i], L1, lr3, m3, r3, ha, fun σ1 lr4 hv => ?_⟩
          obtain ⟨vals, hv⟩ := hv
          refine ⟨by rw [hv]; exact wipe_setAll hix, htt _ _ _ ⟨L1, φ2, Mi, lr4, m3, ?_⟩⟩
          rw [hc]
          intro φ4 H4 e4 m4
          refine ⟨k, hk, ?_⟩
          have e34 := e3.trans e4
          cases k with
          | false =>
            rw [if_neg Bool.false_ne_true] at hrest
            show CS K φ1 H1 δ w run vs M2 (i + 1) H4
            refine ⟨acc, ys, zs, φ4, Mc, bx.next e34 hDa nx_lst.1, m4, (e34.keep δ _ hDa nx_lst.1 bx.out).1, Reps.ext e34 _ _ ra, Nat.le_succ_of_le hal, ?_, hys⟩
            rw [← hrn]
            exact hrest
          | true =>
            rw [if_pos rfl] at hrest
            show tE K W0 (evE cl melt) σ1 H4 fun y H5 => ∃ acc, H5 δ = some (.lst acc) ∧ acc.length < sizeLine ∧ CS K φ1 H1 δ w run vs M2 (i + 1) (upd H5 δ (.lst (acc ++ [y])))
            obtain ⟨y', My, zs', he, hr', rfl⟩ := hrest
            refine ⟨L1, φ4, Mc, lr4.ext e4, m4, ?_⟩
            rw [he]
            intro φ5 H5 e5 m5 v rv
            have e35 := e34.trans e5
            have hD5 := (e35.keep δ _ hDa nx_lst.1 bx.out).1
            have bx5 := bx.next e35 hDa nx_lst.1
            refine ⟨acc, hD5, Nat.lt_of_le_of_lt hal (Nat.lt_of_lt_of_le hlt hlim), acc ++ [v], ys ++ [y'], zs', φ5, My, bx5.put hD _, bx5.putM m5 _ nx_lst, upd_same, ?_, by simpa using hal, ?_, by rw [← hys]; simp⟩
            · exact Reps.ex1 (bx5.put1 _) _ _ ((Reps.ext e35 _ _ ra).append (.cons rv .nil))
            · rw [← hrn]
              exact hr'
        · have ei : i = w.items.length := by omega
          subst ei
          rw [List.drop_length, ← hrn] at hr
          obtain ⟨hok, rfl, rfl⟩ := compL_nil hr
          rw [List.append_nil] at hys
          subst hys
          refine .inl ⟨(hw hok _).1 (Nat.le_refl _), ?_⟩
          have q := g1 { φ2 with b := φ1.b } (dropA H2 δ) (bx.fin hD) (bx.finM m1 hD m2) (.lst acc) δ (.lst (Reps.ex1 bx.fin1 _ _ ra)) (if_pos rfl)
          rw [dropA_upd hDa] at q
          exact q
  · exact False.elim g1
end MP
/-! MiniPy 10b: comprehensions with two `for`. -/
namespace MP
open PySem PySem.Spec PyProof.Rows L2
variable [TabC]
theorem compL2_nil {w : Wk} {tg : Tg} {L : Lo} {cnd : Lo → List D → R D} {inn : Lo → List D → R (List D)} {M M2 : List D} {zs : List D} (h : compL2 w tg L cnd inn [] M = .ok zs M2) : w.ok M = true ∧ zs = [] ∧ M2 = M := by
  unfold compL2 at h
  split at h
  · cases h
    exact ⟨by assumption, rfl, rfl⟩
  · cases h
theorem compL2_cons {w : Wk} {tg : Tg} {L : Lo} {cnd : Lo → List D → R D} {inn : Lo → List D → R (List D)} {x : D} {r : List D} {M M2 : List D} {zs : List D} (h : compL2 w tg L cnd inn (x :: r) M = .ok zs M2) :
    w.ok M = true ∧ ∃ L1 c Mc k, asg tg x L = some L1 ∧ cnd L1 M = .ok c Mc ∧ truth Mc c = some k ∧ if k = true then ∃ ys My zs', inn L1 Mc = .ok ys My ∧ compL2 w tg L cnd inn r My = .ok zs' M2 ∧ zs = ys ++ zs' else compL2 w tg L cnd inn r Mc = .ok zs M2 := by
  unfold compL2 at h
  split at h
  · rename_i hok
    refine ⟨hok, ?_⟩
    split at h
    · cases h
    · rename_i L1 hL1
      obtain ⟨c, Mc, h1, h⟩ := bind_inv h
      obtain ⟨k, Mk, h2, h⟩ := bind_inv h
      obtain ⟨h2, rfl⟩ := ofO_inv h2
      refine ⟨L1, c, _, k, hL1, h1, h2, ?_⟩
      cases k with
      | true =>
        rw [if_pos rfl] at h ⊢
        obtain ⟨y, My, h3, h⟩ := bind_inv h
        obtain ⟨zs', Mz, h4, h⟩ := bind_inv h
        cases h
        exact ⟨y, My, zs', h3, h4, rfl⟩
      | false =>
        rw [if_neg Bool.false_ne_true] at h ⊢
        exact h
  · cases h
/-- where the outer walk stands before its i-th turn -/
def CS2 (K : PySem.W.Frag) (φ1 : Ph) (H1 : Hp) (δ : Addr) (w : Wk) (run : List MP.D → List MP.D → R (List MP.D)) (vs M2 : List MP.D) (i : Nat) (H : Hp) : Prop :=
  ∃ acc ys zs φ2 Mi, Bx φ1 H1 δ φ2 H ∧ MH K φ2 H Mi ∧ H δ = some (.lst acc) ∧ Reps K φ2 H ys acc ∧ run (w.items.drop i) Mi = .ok zs M2 ∧ ys ++ zs = vs
/-- where the inner walk stands before its j-th turn: the list shall be ps at its end, in the memory My -/
def CI (K : PySem.W.Frag) (φ1 : Ph) (H1 : Hp) (φ5 : Ph) (H4 : Hp) (δ : Addr) (w : Wk) (run : List MP.D → List MP.D → R (List MP.D)) (ps My : List MP.D) (j : Nat) (H : Hp) : Prop :=
  ∃ acc ys zs φ2 Mi, Bx φ1 H1 δ φ2 H ∧ Ex1 φ5 H4 φ2 H ∧ MH K φ2 H Mi ∧ H δ = some (.lst acc) ∧ Reps K φ2 H ys acc ∧ run (w.items.drop j) Mi = .ok zs My ∧ ys ++ zs = ps
/-- the inner walk -/
theorem comp_inner {K : PySem.W.Frag} {cl : Cl} {own1 : List Nat} {melt : E} {tg1 : Tg} {mi1 : I} {mcs1 : Es} {σ : L2.St} {L : Lo} {φ1 φ : Ph} {H1 H : Hp} {δ : Addr} {M My : List MP.D} {Nx : Hp → Prop} {acc : List V} {yb ys1 : List MP.D} (hix : ∀ i ∈ tgIx tg1, i ∈ own1) (hD : H1 δ = none)
    (bx : Bx φ1 H1 δ φ H) (m : MH K φ H M) (hDa : H δ = some (.lst acc)) (ra : Reps K φ H yb acc) (lr : LR K φ H L σ) (hlim : (yb ++ ys1).length ≤ lim)
    (h : ((evI cl mi1 L M).bind fun w1 M1 => compL w1 tg1 (wipe L own1) (evC cl mcs1) (evE cl melt) w1.items M1) = .ok ys1 My)
    (hN : ∀ φ' H' acc', Bx φ1 H1 δ φ' H' → MH K φ' H' My → H' δ = some (.lst acc') → Reps K φ' H' (yb ++ ys1) acc' → Nx H') :
    tI K W0 (evI cl mi1) σ H fun J1 H4 => ∃ W1 : Nat → Nat → Hp → Prop, (∃ m, W1 0 m H4) ∧ ∀ j k H, W1 j k H →
      (J1.stop j H ∧ Nx H) ∨ (J1.go j H ∧ ∃ Nx1 : Hp → Prop, (∀ H', Nx1 H' → ∃ k', k' < k ∧ W1 (j + 1) k' H') ∧ ∀ x H', J1.yld j H x H' → gT K tg1 x (L2.wipe σ own1) H' fun σ3 H5 => L2.wipe σ3 own1 = L2.wipe σ own1 ∧ tT K W0 (evC cl mcs1) σ3 H5 fun b H6 =>
        if b = true then tE K W0 (evE cl melt) σ3 H6 fun y H7 => ∃ acc, H7 δ = some (.lst acc) ∧ acc.length < sizeLine ∧ Nx1 (upd H7 δ (.lst (acc ++ [y]))) else Nx1 H6) := by
  obtain ⟨w1, M1, hI, hrun⟩ := bind_inv h
  refine ⟨L, φ, M, lr, m, ?_⟩
  rw [hI]
  intro φ5 H4 e5 m5 J hJ
  have bx5 := bx.next e5 hDa nx_lst.1
  have hD5 := (e5.keep δ _ hDa nx_lst.1 bx.out).1
  have ra5 := Reps.ext e5 _ _ ra
  have lr5 := lr.ext e5
  generalize hrn : (fun l M => compL w1 tg1 (wipe L own1) (evC cl mcs1) (evE cl melt) l M) = run at *
  have hr0 : run w1.items M1 = .ok ys1 My := by rw [← hrn]; exact hrun
  refine ⟨fun j k H => k = w1.items.length - j ∧ j ≤ w1.items.length ∧ CI K φ1 H1 φ5 H4 δ w1 run (yb ++ ys1) My j H, ⟨w1.items.length, by simp, Nat.zero_le _, acc, yb, ys1, φ5, M1, bx5, Ex1.refl, m5, hD5, ra5, hr0, rfl⟩, ?_⟩
  rintro j k H2 ⟨rfl, hi, acc2, ys, zs, φ2, Mi, bx2, x2, m2, hDa2, ra2, hr, hys⟩
  have hw := hJ φ2 H2 Mi x2 m2
  by_cases hlt : j < w1.items.length
  · have hdrop : w1.items.drop j = w1.items[j] :: w1.items.drop (j + 1) := List.drop_eq_getElem_cons hlt
    rw [hdrop, ← hrn] at hr
    obtain ⟨hok, L1, c, Mc, k, ha, hc, hk, hrest⟩ := compL_cons hr
    obtain ⟨_, hgo⟩ := hw hok j
    obtain ⟨go, hy⟩ := hgo w1.items[j] (List.getElem?_eq_getElem hlt)
    refine .inr ⟨go, fun H' => CI K φ1 H1 φ5 H4 δ w1 run (yb ++ ys1) My (j + 1) H', fun H' c => ⟨w1.items.length - (j + 1), by omega, rfl, hlt, c⟩, fun x H' y => ?_⟩
    obtain ⟨e3, m3, r3⟩ := hy x H' y
    have lr3 : LR K φ2 H' (wipe L own1) (L2.wipe σ own1) := (lr5.ex1 x2).ext e3 |>.wipe own1
    refine ⟨wipe L own1, φ2, Mi, w1.items[j], L1, lr3, m3, r3, ha, fun σ1 lr4 hv => ?_⟩
    obtain ⟨vals, hv⟩ := hv
    refine ⟨by rw [hv]; exact wipe_setAll hix, ⟨L1, φ2, Mi, lr4, m3, ?_⟩⟩
    rw [hc]
    intro φ4 H4' e4 m4
    refine ⟨k, hk, ?_⟩
    have e34 := e3.trans e4
    cases k with
    | false =>
      rw [if_neg Bool.false_ne_true] at hrest
      show CI K φ1 H1 φ5 H4 δ w1 run (yb ++ ys1) My (j + 1) H4'
      refine ⟨acc2, ys, zs, φ4, Mc, bx2.next e34 hDa2 nx_lst.1, x2.trans e34.weak, m4, (e34.keep δ _ hDa2 nx_lst.1 bx2.out).1, Reps.ext e34 _ _ ra2, ?_, hys⟩
      rw [← hrn]
      exact hrest
    | true =>
      rw [if_pos rfl] at hrest
      obtain ⟨y', My', zs', he, hr', rfl⟩ := hrest
      show tE K W0 (evE cl melt) σ1 H4' fun y H5 => ∃ acc, H5 δ = some (.lst acc) ∧ acc.length < sizeLine ∧ CI K φ1 H1 φ5 H4 δ w1 run (yb ++ ys1) My (j + 1) (upd H5 δ (.lst (acc ++ [y])))
      refine ⟨L1, φ4, Mc, lr4.ext e4, m4, ?_⟩
      rw [he]
      intro φ6 H5 e5' m6 v rv
      have e35 := e34.trans e5'
      have hD6 := (e35.keep δ _ hDa2 nx_lst.1 bx2.out).1
      have bx6 := bx2.next e35 hDa2 nx_lst.1
      refine ⟨acc2, hD6, ?_, acc2 ++ [v], ys ++ [y'], zs', φ6, My', bx6.put hD _, (x2.trans e35.weak).trans (bx6.put1 _), bx6.putM m6 _ nx_lst, upd_same, ?_, ?_, by rw [← hys]; simp⟩
      · have l1 := ra2.length
        rw [← hys] at hlim
        rw [List.length_append, List.length_cons] at hlim
        have : lim = sizeLine := rfl
        omega
      · exact Reps.ex1 (bx6.put1 _) _ _ ((Reps.ext e35 _ _ ra2).append (.cons rv .nil))
      · rw [← hrn]
        exact hr'
  · have ei : j = w1.items.length := by omega
    subst ei
    rw [List.drop_length, ← hrn] at hr
    obtain ⟨hok, rfl, rfl⟩ := compL_nil hr
    rw [List.append_nil] at hys
    subst hys
    exact .inl ⟨(hw hok _).1 (Nat.le_refl _), hN _ _ _ bx2 m2 hDa2 ra2⟩
theorem comp2_run {K : PySem.W.Frag} {W : WX} {cl : Cl} {own own1 : List Nat} {melt : E} {tg tg1 : Tg} {mi mi1 : I} {mcs mcs1 : Es} {σ : L2.St} {H : Hp} {Q : VK} (hix : ∀ i ∈ tgIx tg, i ∈ own) (hix1 : ∀ i ∈ tgIx tg1, i ∈ own1)
    (h : tN K W (evN cl (.comp2 own own1 melt tg mi mcs tg1 mi1 mcs1)) σ H Q) : tLc2 (tI K W (evI cl mi)) (gT K tg) (tT K W0 (evC cl mcs)) (tI K W0 (evI cl mi1)) (gT K tg1) (tT K W0 (evC cl mcs1)) (tE K W0 (evE cl melt)) own own1 σ H Q := by
  obtain ⟨L, φ, M, lr, mh, p⟩ := h
  refine ⟨L, φ, M, lr, mh, (PR.bind (show PR K W σ φ H ((evI cl mi L M).bind fun w M1 =>
      ((compL2 w tg (wipe L own) (evC cl mcs) (fun L1 M => (evI cl mi1 L1 M).bind fun w1 M1 => (compL w1 tg1 (wipe L1 own1) (evC cl mcs1) (evE cl melt) w1.items M1)) w.items M1).nx).bind fun vs M2 => if vs.length ≤ lim then .ok (D.lst vs) M2 else .bad) _ from p)).mono fun w M1 φ1 H1 e1 m1 g1 => ?_⟩
  intro J hJ δ hD
  generalize hinn : (fun L1 M => (evI cl mi1 L1 M).bind fun w1 M1 => (compL w1 tg1 (wipe L1 own1) (evC cl mcs1) (evE cl melt) w1.items M1)) = inn at *
  cases hrun : compL2 w tg (wipe L own) (evC cl mcs) inn w.items M1 with
  | bad => rw [hrun] at g1; exact False.elim g1
  | exc c e M' => rw [hrun] at g1; exact False.elim g1
  | ok vs M2 =>
    rw [hrun] at g1
    replace g1 := show PR K W σ φ1 H1 (if vs.length ≤ lim then R.ok (D.lst vs) M2 else .bad) (fun d M' φ' H' => ∀ (o : HO) (p : Addr), ObjIs K φ' H' d p o → H' p = none → Q (V.ref p) (upd H' p o)) from g1
    split at g1
    · rename_i hlim
      generalize hrn : (fun l M => compL2 w tg (wipe L own) (evC cl mcs) inn l M) = run at *
      have hr0 : run w.items M1 = .ok vs M2 := by rw [← hrn]; exact hrun
      refine ⟨fun i m H => m = w.items.length - i ∧ i ≤ w.items.length ∧ CS2 K φ1 H1 δ w run vs M2 i H, ⟨w.items.length, by simp, Nat.zero_le _, ?_⟩, ?_⟩
      · exact ⟨[], [], vs, { φ1 with b := δ :: φ1.b }, M1, Bx.start m1 hD, by
          have x := Bx.start (φ1 := φ1) (H1 := H1) (o := .lst []) m1 hD
          refine ⟨m1.nd, m1.len, fun b hb => ?_, m1.tab.ext fun b u hu => by rw [upd_ne (ne_of_none hu hD)]; exact hu, fun n a d h1 h2 => ?_⟩
          · rcases List.mem_cons.mp hb with z | z
            · rw [z]
              exact ⟨(m1.notin hD).1, _, upd_same, nx_lst⟩
            · obtain ⟨n, u, hu, hx⟩ := m1.bar b z
              exact ⟨n, u, by rw [upd_ne (ne_of_none hu hD)]; exact hu, hx⟩
          · refine (m1.at_ n a d h1 h2).ex1 (x.weak hD) (upd_ne fun z => (m1.notin hD).1 ?_)
            rw [← z]
            exact List.mem_of_getElem? h1, upd_same, .nil, hr0, rfl⟩
      · rintro i m H2 ⟨rfl, hi, acc, ys, zs, φ2, Mi, bx, m2, hDa, ra, hr, hys⟩
        have hw := hJ φ2 H2 Mi (bx.weak hD) m2
        by_cases hlt : i < w.items.length
        · have hdrop : w.items.drop i = w.items[i] :: w.items.drop (i + 1) := List.drop_eq_getElem_cons hlt
          rw [hdrop, ← hrn] at hr
          obtain ⟨hok, L1, c, Mc, k, ha, hc, hk, hrest⟩ := compL2_cons hr
          obtain ⟨_, hgo⟩ := hw hok i
          obtain ⟨go, hy⟩ := hgo w.items[i] (List.getElem?_eq_getElem hlt)
          refine .inr ⟨go, fun H' => CS2 K φ1 H1 δ w run vs M2 (i + 1) H', fun H' c => ⟨w.items.length - (i + 1), by omega, rfl, hlt, c⟩, fun x H' y => ?_⟩
          obtain ⟨e3, m3, r3⟩ := hy x H' y
          have lr3 : LR K φ2 H' (wipe L own) (L2.wipe σ own) := ((lr.ext e1).ex1 (bx.weak hD)).ext e3 |>.wipe own
          refine ⟨wipe L own, φ2, Mi, w.items[i], L1, lr3, m3, r3, ha, fun σ1 lr4 hv => ?_⟩
          obtain ⟨vals, hv⟩ := hv
          refine ⟨by rw [hv]; exact wipe_setAll hix, ⟨L1, φ2, Mi, lr4, m3, ?_⟩⟩
          rw [hc]
          intro φ4 H4 e4 m4
          refine ⟨k, hk, ?_⟩
          have e34 := e3.trans e4
          have bx4 := bx.next e34 hDa nx_lst.1
          have hD4 := (e34.keep δ _ hDa nx_lst.1 bx.out).1
          have ra4 := Reps.ext e34 _ _ ra
          cases k with
          | false =>
            rw [if_neg Bool.false_ne_true] at hrest
            show CS2 K φ1 H1 δ w run vs M2 (i + 1) H4
            refine ⟨acc, ys, zs, φ4, Mc, bx4, m4, hD4, ra4, ?_, hys⟩
            rw [← hrn]
            exact hrest
          | true =>
            rw [if_pos rfl] at hrest
            show if true = true then _ else _
            rw [if_pos rfl]
            obtain ⟨ys1, My, zs', he, hr', rfl⟩ := hrest
            rw [← hinn] at he
            refine comp_inner hix1 hD bx4 m4 hD4 ra4 (lr4.ext e4) ?_ he fun φ' H' acc' bx' m' hD' ra' => ?_
            · rw [← hys] at hlim
              rw [List.length_append, List.length_append] at hlim
              rw [List.length_append]
              omega
            · refine ⟨acc', ys ++ ys1, zs', φ', My, bx', m', hD', ra', ?_, by rw [← hys, List.append_assoc]⟩
              rw [← hrn]
              exact hr'
        · have ei : i = w.items.length := by omega
          subst ei
          rw [List.drop_length, ← hrn] at hr
          obtain ⟨hok, rfl, rfl⟩ := compL2_nil hr
          rw [List.append_nil] at hys
          subst hys
          refine .inl ⟨(hw hok _).1 (Nat.le_refl _), ?_⟩
          have q := g1 { φ2 with b := φ1.b } (dropA H2 δ) (bx.fin hD) (bx.finM m1 hD m2) (.lst acc) δ (.lst (Reps.ex1 bx.fin1 _ _ ra)) (if_pos rfl)
          rw [dropA_upd hDa] at q
          exact q
    · exact False.elim g1
end MP
/-! MiniPy 11: statements. -/
namespace MP
open PySem PySem.Spec PyProof.Rows L2
variable [TabC]

section
variable {X : Cx} {W : WX} {cl : Cl} {a b c tgE iter elt : Expr} {ma mb mc : E} {pos : Pos}
theorem mts_nil : PTs X [] (tT X.K W (evC cl .nil)) := ⟨fun pins s σ H Q I h => pts_nil.run pins s σ H Q I (by
  obtain ⟨L, φ, M, lr, mh, p⟩ := h
  obtain ⟨k, h1, h2⟩ := (show PR X.K W σ φ H (.ok (D.bl true) M) _ from p).here mh
  cases h1
  exact h2)⟩
theorem mts_one (hc : PT X c (tT X.K W (evE cl mc))) {r : Es} : PTs X [c] (tT X.K W (evC cl (.cons mc r))) := pts_one hc
theorem mn_lc {scope : Scope} {own : List (Str × Nat)} {tg : Tg} {mi : I} {mcs : Es} {melt : E} {ifs : List Expr} (hc : X.calm = true) (hN : X.N.Nodup) (hi : PI X tgE iter (tI X.K W (evI cl mi))) (ok : BlkOk X.N X.env.scope scope own) (hix : ∀ i ∈ tgIx tg, i ∈ own.map (·.2))
    (hg : ∀ (s : Shared) (H : Hp) (C : Addr) (l : List (Str × Addr)) (fp : List Addr), PG (X.blk s H scope (compEnvC scope l C X.env) fp) tgE (gT X.K tg)) (ht : ∀ (s : Shared) (H : Hp) (C : Addr) (l : List (Str × Addr)) (fp : List Addr), PTs (X.blk s H scope (compEnvC scope l C X.env) fp) ifs (tT X.K W0 (evC cl mcs)))
    (he : ∀ (s : Shared) (H : Hp) (C : Addr) (l : List (Str × Addr)) (fp : List Addr), PE (X.blk s H scope (compEnvC scope l C X.env) fp) elt (tE X.K W0 (evE cl melt))) (hs : ∀ x, foldedSetIterable iter X.env x = pure x) :
    PE X (.ListComp elt [⟨tgE, iter, ifs, 0⟩] scope pos) (tN X.K W (evN cl (.comp (own.map (·.2)) melt tg mi mcs))) :=
  imp_PE (pe_lc hc hN hi ok hg ht he hs) fun σ H Q h => comp_run (fun _ _ _ h => h) hix h
theorem mn_lc2 {tgE1 iter1 : Expr} {scope : Scope} {own : List (Str × Nat)} {own1 : List Nat} {tg tg1 : Tg} {mi mi1 : I} {mcs mcs1 : Es} {melt : E} {ifs ifs1 : List Expr} (hc : X.calm = true) (hN : X.N.Nodup) (hi : PI X tgE iter (tI X.K W (evI cl mi))) (ok : BlkOk X.N X.env.scope scope own) (hix : ∀ i ∈ tgIx tg, i ∈ own.map (·.2)) (hix1 : ∀ i ∈ tgIx tg1, i ∈ own1) (hv : ∀ i ∈ own1, i ∈ own.map (·.2))
    (hg : ∀ (s : Shared) (H : Hp) (C : Addr) (l : List (Str × Addr)) (fp : List Addr), PG (X.blk s H scope (compEnvC scope l C X.env) fp) tgE (gT X.K tg)) (ht : ∀ (s : Shared) (H : Hp) (C : Addr) (l : List (Str × Addr)) (fp : List Addr), PTs (X.blk s H scope (compEnvC scope l C X.env) fp) ifs (tT X.K W0 (evC cl mcs)))
    (hi1 : ∀ (s : Shared) (H : Hp) (C : Addr) (l : List (Str × Addr)) (fp : List Addr), PI (X.blk s H scope (compEnvC scope l C X.env) fp) tgE1 iter1 (tI X.K W0 (evI cl mi1))) (hg1 : ∀ (s : Shared) (H : Hp) (C : Addr) (l : List (Str × Addr)) (fp : List Addr), PG (X.blk s H scope (compEnvC scope l C X.env) fp) tgE1 (gT X.K tg1)) (ht1 : ∀ (s : Shared) (H : Hp) (C : Addr) (l : List (Str × Addr)) (fp : List Addr), PTs (X.blk s H scope (compEnvC scope l C X.env) fp) ifs1 (tT X.K W0 (evC cl mcs1)))
    (he : ∀ (s : Shared) (H : Hp) (C : Addr) (l : List (Str × Addr)) (fp : List Addr), PE (X.blk s H scope (compEnvC scope l C X.env) fp) elt (tE X.K W0 (evE cl melt))) (hs : ∀ x, foldedSetIterable iter X.env x = pure x) (hs1 : ∀ env x, foldedSetIterable iter1 env x = pure x) :
    PE X (.ListComp elt [⟨tgE, iter, ifs, 0⟩, ⟨tgE1, iter1, ifs1, 0⟩] scope pos) (tN X.K W (evN cl (.comp2 (own.map (·.2)) own1 melt tg mi mcs tg1 mi1 mcs1))) :=
  imp_PE (pe_lc2 hc hN hi ok hv hg ht hi1 hg1 ht1 he hs hs1) fun σ H Q h => comp2_run hix hix1 h
end

/-! ### what a statement leaves -/
def PRS (K : PySem.W.Frag) (W : WX) (φ : Ph) (H : Hp) (r : RS) (De : Ends) : Prop := match r with
  | .next L' M' => ∀ φ' H' σ', Ext φ H φ' H' → MH K φ' H' M' → LR K φ' H' L' σ' → De.nx σ' H'
  | .brk L' M' => ∀ φ' H' σ', Ext φ H φ' H' → MH K φ' H' M' → LR K φ' H' L' σ' → De.bk σ' H'
  | .cont L' M' => ∀ φ' H' σ', Ext φ H φ' H' → MH K φ' H' M' → LR K φ' H' L' σ' → De.ct σ' H'
  | .ret d M' => ∀ φ' H' v, Ext φ H φ' H' → MH K φ' H' M' → Rep K φ' H' d v → De.rt v H'
  | .exc c e L' M' => ∀ φ' H' σ' cls dd, Ext φ H φ' H' → MH K φ' H' M' → LR K φ' H' L' σ' → XRep K φ' H' c e cls dd → W cls dd σ' H'
  | .bad => False
def tS (K : PySem.W.Frag) (W : WX) (m : Lo → List D → RS) : TS := fun De σ H => ∃ L φ M, LR K φ H L σ ∧ MH K φ H M ∧ PRS K W φ H (m L M) De
section
variable {K : PySem.W.Frag} {W : WX} {σ : L2.St} {φ φ1 φ2 : Ph} {H H1 H2 : Hp} {De : Ends}
theorem PRS.ext {r : RS} (p : PRS K W φ H r De) (e : Ext φ H φ1 H1) : PRS K W φ1 H1 r De := by
  cases r with
  | next L M => exact fun φ' H' σ' e' m l => p φ' H' σ' (e.trans e') m l
  | brk L M => exact fun φ' H' σ' e' m l => p φ' H' σ' (e.trans e') m l
  | cont L M => exact fun φ' H' σ' e' m l => p φ' H' σ' (e.trans e') m l
  | ret d M => exact fun φ' H' v e' m r => p φ' H' v (e.trans e') m r
  | exc c x L M => exact fun φ' H' σ' cls dd e' m l r => p φ' H' σ' cls dd (e.trans e') m l r
  | bad => exact p
theorem PRS.thn {α : Type} {L : Lo} {r : R α} {f : α → List D → RS} (lr : LR K φ H L σ) (p : PRS K W φ H (r.then L f) De) : PR K W σ φ H r fun a M1 φ1 H1 => PRS K W φ1 H1 (f a M1) De := by
  cases r with
  | ok a M => exact fun φ' H' e m => PRS.ext (show PRS K W φ H (f a M) De from p) e
  | exc c e M => exact fun φ' H' cls dd e m x => p φ' H' σ cls dd e m (lr.ext e) x
  | bad => exact p
theorem PRS.mono {r : RS} {De' : Ends} (p : PRS K W φ H r De) (h1 : ∀ φ' H' σ' L' M', r = .next L' M' → Ext φ H φ' H' → MH K φ' H' M' → LR K φ' H' L' σ' → De.nx σ' H' → De'.nx σ' H') (h2 : ∀ φ' H' σ' L' M', r = .brk L' M' → Ext φ H φ' H' → MH K φ' H' M' → LR K φ' H' L' σ' → De.bk σ' H' → De'.bk σ' H')
    (h3 : ∀ φ' H' σ' L' M', r = .cont L' M' → Ext φ H φ' H' → MH K φ' H' M' → LR K φ' H' L' σ' → De.ct σ' H' → De'.ct σ' H') (h4 : ∀ v H, De.rt v H → De'.rt v H) : PRS K W φ H r De' := by
  cases r with
  | next L M => exact fun φ' H' σ' e' m l => h1 φ' H' σ' L M rfl e' m l (p φ' H' σ' e' m l)
  | brk L M => exact fun φ' H' σ' e' m l => h2 φ' H' σ' L M rfl e' m l (p φ' H' σ' e' m l)
  | cont L M => exact fun φ' H' σ' e' m l => h3 φ' H' σ' L M rfl e' m l (p φ' H' σ' e' m l)
  | ret d M => exact fun φ' H' v e' m r => h4 _ _ (p φ' H' v e' m r)
  | exc c x L M => exact p
  | bad => exact p
theorem PRS.here {L : Lo} {M : List D} (p : PRS K W φ H (.next L M) De) (l : LR K φ H L σ) (m : MH K φ H M) : De.nx σ H := p φ H σ Ext.refl m l
end
section
variable {X : Cx} {W : WX} {cl : Cl} {a b c tgE iter elt : Expr} {ma mb mc : E} {pos : Pos} {st : Stmt} {sts : List Stmt} {ms : S} {mss : Ss}
theorem ss_nil : PSs X [] (tS X.K W (exSs cl .nil)) := by
  refine imp_PSs pss_nil fun De σ H h => ?_
  obtain ⟨L, φ, M, lr, mh, p⟩ := h
  exact (show PRS X.K W φ H (.next L M) De from p).here lr mh
theorem ss_cons (h1 : PS X st (tS X.K W (exS cl ms))) (h2 : PSs X sts (tS X.K W (exSs cl mss))) : PSs X (st :: sts) (tS X.K W (exSs cl (.cons ms mss))) := by
  refine imp_PSs (pss_cons h1 h2) fun De σ H h => ?_
  obtain ⟨L, φ, M, lr, mh, p⟩ := h
  refine ⟨L, φ, M, lr, mh, ?_⟩
  replace p := show PRS X.K W φ H ((exS cl ms L M).seq fun L1 M1 => exSs cl mss L1 M1) De from p
  cases hr : exS cl ms L M with
  | next L1 M1 =>
    rw [hr] at p
    exact fun φ' H' σ' e m l => ⟨L1, φ', M1, l, m, PRS.ext (show PRS X.K W φ H (exSs cl mss L1 M1) De from p) e⟩
  | brk L1 M1 => rw [hr] at p; exact p
  | cont L1 M1 => rw [hr] at p; exact p
  | ret d M1 => rw [hr] at p; exact p
  | exc c e L1 M1 => rw [hr] at p; exact p
  | bad => rw [hr] at p; exact p
theorem s_pass : PS X (.Pass pos) (tS X.K W (exS cl .pass)) := by
  refine imp_PS ps_pass fun De σ H h => ?_
  obtain ⟨L, φ, M, lr, mh, p⟩ := h
  exact (show PRS X.K W φ H (.next L M) De from p).here lr mh
theorem s_brk : PS X (.Break pos) (tS X.K W (exS cl .brk)) := by
  refine imp_PS ps_break fun De σ H h => ?_
  obtain ⟨L, φ, M, lr, mh, p⟩ := h
  exact (show PRS X.K W φ H (.brk L M) De from p) φ H σ Ext.refl mh lr
theorem s_cont : PS X (.Continue pos) (tS X.K W (exS cl .cont)) := by
  refine imp_PS ps_continue fun De σ H h => ?_
  obtain ⟨L, φ, M, lr, mh, p⟩ := h
  exact (show PRS X.K W φ H (.cont L M) De from p) φ H σ Ext.refl mh lr
theorem s_ex (ha : PE X a (tE X.K W (evE cl ma))) (hs : swapsWith a none pos.line X.env = pure false) : PS X (.Expr a pos) (tS X.K W (exS cl (.ex ma))) := by
  refine imp_PS (ps_expr ha hs) fun De σ H h => ?_
  obtain ⟨L, φ, M, lr, mh, p⟩ := h
  refine tE_use lr mh (PRS.thn lr (show PRS X.K W φ H ((evE cl ma L M).then L fun _ M1 => .next L M1) De from p)) fun d M1 φ1 H1 v e1 m1 g1 r1 => ?_
  exact g1.here (lr.ext e1) m1
theorem s_ret (ha : PE X a (tE X.K W (evE cl ma))) : PS X (.Return (some a) pos) (tS X.K W (exS cl (.ret ma))) := by
  refine imp_PS (ps_ret ha) fun De σ H h => ?_
  obtain ⟨L, φ, M, lr, mh, p⟩ := h
  refine tE_use lr mh (PRS.thn lr (show PRS X.K W φ H ((evE cl ma L M).then L fun d M1 => .ret d M1) De from p)) fun d M1 φ1 H1 v e1 m1 g1 r1 => ?_
  exact g1 φ1 H1 v Ext.refl m1 r1
theorem s_ret0 : PS X (.Return none pos) (tS X.K W (exS cl (.ret (.lit .non)))) := by
  refine imp_PS ps_retN fun De σ H h => ?_
  obtain ⟨L, φ, M, lr, mh, p⟩ := h
  exact (show PRS X.K W φ H (.ret .non M) De from p) φ H .non Ext.refl mh .non
theorem s_if {as bs : List Stmt} {mas mbs : Ss} (hc : PT X c (tT X.K W (evE cl mc))) (ha : PSs X as (tS X.K W (exSs cl mas))) (hb : PSs X bs (tS X.K W (exSs cl mbs))) : PS X (.If c as bs pos) (tS X.K W (exS cl (.ite mc mas mbs))) := by
  refine imp_PS (ps_if hc ha hb) fun De σ H h => ?_
  obtain ⟨L, φ, M, lr, mh, p⟩ := h
  refine tT_use lr mh (PRS.thn lr (show PRS X.K W φ H ((evE cl mc L M).then L fun x M1 => (ofO (truth M1 x) M1).then L fun k M1 => if k then exSs cl mas L M1 else exSs cl mbs L M1) De from p)) fun d M1 φ1 H1 e1 m1 g1 => ?_
  cases hk : truth M1 d with
  | none => rw [hk] at g1; exact False.elim g1
  | some k =>
    rw [hk] at g1
    refine ⟨k, rfl, ?_⟩
    replace g1 := show PRS X.K W φ1 H1 (if k then exSs cl mas L M1 else exSs cl mbs L M1) De from g1
    cases k with
    | true => exact ⟨L, φ1, M1, lr.ext e1, m1, g1⟩
    | false => exact ⟨L, φ1, M1, lr.ext e1, m1, g1⟩
/-- the end of a store -/
theorem asg_end {e : E} {t : Tg} {De : Ends} {σ : L2.St} {H : Hp} (h : tS X.K W (exS cl (.asg t e)) De σ H) : tE X.K W (evE cl e) σ H fun x H1 => gT X.K t x σ H1 De.nx := by
  obtain ⟨L, φ, M, lr, mh, p⟩ := h
  refine tE_use lr mh (PRS.thn lr (show PRS X.K W φ H ((evE cl e L M).then L fun d M1 => match asg t d L with | some L1 => .next L1 M1 | none => .bad) De from p)) fun d M1 φ1 H1 v e1 m1 g1 r1 => ?_
  cases ha : asg t d L with
  | none => rw [ha] at g1; exact False.elim g1
  | some L1 =>
    rw [ha] at g1
    exact ⟨L, φ1, M1, d, L1, lr.ext e1, m1, r1, ha, fun σ1 l _ => (show PRS X.K W φ1 H1 (.next L1 M1) De from g1).here l m1⟩
theorem s_asg {t : Tg} (ha : PE X a (tE X.K W (evE cl ma))) (hg : PG X tgE (gT X.K t)) (hs : swapsWithSole [tgE] a pos.line X.env = pure false) (hw : swappedStores [tgE] a X.env = pure none) (h1 : (assignEach [tgE] X.env).map (·.2) = [assign tgE X.env]) : PS X (.Assign [tgE] a pos) (tS X.K W (exS cl (.asg t ma))) :=
  imp_PS (ps_asg ha hg hs hw h1) fun De σ H h => asg_end h
theorem s_set {i : Nat} {x : Str} {pos' : Pos} (hN : X.N.Nodup) (hi : X.N[i]? = some x) (hx : Loc X.env.scope x) (ha : PE X a (tE X.K W (evE cl ma))) (hs : swapsWith a (some (.Name x pos')) pos.line X.env = pure false) (hf : X.fn x = true ∨ X.env.scope.names.lookup x = some .local) :
    PS X (.Assign [.Name x pos'] a pos) (tS X.K W (exS cl (.asg (.name i) ma))) := by
  refine imp_PS (ps_set hN hi hx ha hs hf) fun De σ H h => ?_
  obtain ⟨L, φ, M, lr, mh, p⟩ := h
  refine tE_use lr mh (PRS.thn lr (show PRS X.K W φ H ((evE cl ma L M).then L fun d M1 => .next (L.set i (some d)) M1) De from p)) fun d M1 φ1 H1 v e1 m1 g1 r1 => ?_
  exact g1.here ((lr.ext e1).set i r1) m1
/-- name = [..] on one line -/
theorem s_setLc {i : Nat} {y : Str} {py spos : Pos} {scope : Scope} {own : List (Str × Nat)} {tg : Tg} {mi : I} {mcs : Es} {melt : E} {ifs : List Expr} {fr : Bool} (hc : X.calm = true) (hN : X.N.Nodup) (hy : X.N[i]? = some y) (hyl : X.env.scope.names.lookup y = some .local)
    (hsw : swapsWith (.ListComp elt [⟨tgE, iter, ifs, 0⟩] scope pos) (some (.Name y py)) spos.line X.env = pure true) (hi : PI X tgE iter (tI X.K W (evI cl mi))) (ok : BlkOk X.N X.env.scope scope own) (hix : ∀ i ∈ tgIx tg, i ∈ own.map (·.2))
    (hg : ∀ (s : Shared) (H : Hp) (C : Addr) (l : List (Str × Addr)) (fp : List Addr), PG (X.blk s H scope (compEnvC scope l C X.env) fp) tgE (gT X.K tg)) (ht : ∀ (s : Shared) (H : Hp) (C : Addr) (l : List (Str × Addr)) (fp : List Addr), PTs (X.blk s H scope (compEnvC scope l C X.env) fp) ifs (tT X.K W0 (evC cl mcs)))
    (he : ∀ (s : Shared) (H : Hp) (C : Addr) (l : List (Str × Addr)) (fp : List Addr), PE (X.blk s H scope (compEnvC scope l C X.env) fp) elt (tE X.K W0 (evE cl melt))) (hs : ∀ x, foldedSetIterable iter X.env x = pure x) :
    PS X (.Assign [.Name y py] (.ListComp elt [⟨tgE, iter, ifs, 0⟩] scope pos) spos) (tS X.K W (exS cl (.asg (.name i) (.new fr (.comp (own.map (·.2)) melt tg mi mcs))))) := by
  refine imp_PS (ps_setLc hc hN hy hyl hsw hi ok hg ht he hs) fun De σ H h => ?_
  show tLc _ _ _ _ _ σ H fun x H1 => gName i x σ H1 De.nx
  refine comp_run (fun _ _ _ h => h) hix ?_
  obtain ⟨L, φ, M, lr, mh, p⟩ := h
  have p' := PRS.thn lr (show PRS X.K W φ H ((evE cl (.new fr (.comp (own.map (·.2)) melt tg mi mcs)) L M).then L fun d M1 => .next (L.set i (some d)) M1) De from p)
  refine ⟨L, φ, M, lr, mh, ?_⟩
  refine (PR.bind (show PR X.K W σ φ H ((evN cl (.comp (own.map (·.2)) melt tg mi mcs) L M).bind fun d M1 => if fr then .ok d M1 else .ok (D.ref M1.length) (M1 ++ [d])) _ from p')).mono fun d M1 φ1 H1 e1 m1 g o q ob hp => ?_
  cases fr with
  | true =>
    rw [if_pos rfl] at g
    refine (g φ1 _ (Ext.new hp) (m1.new hp)).here (((lr.ext e1).ext (Ext.new hp)).set i ?_) (m1.new hp)
    cases ob with
    | lst r => exact .lst upd_same (m1.notin hp) (Reps.ext (Ext.new hp) _ _ r)
    | dct h1 _ h3 h4 => exact .dct upd_same (m1.notin hp) h1 h3 (RepP.ext (Ext.new hp) _ _ h4)
  | false =>
    rw [if_neg Bool.false_ne_true] at g
    have ob' : ObjAt X.K (φ1.more q) (upd H1 q o) d q := by
      cases ob with
      | lst r => exact .lst upd_same (Reps.ext (Ext.alloc hp) _ _ r)
      | dct h1 h2 h3 h4 => exact .dct upd_same h1 h2 h3 (RepP.ext (Ext.alloc hp) _ _ h4)
    refine (g (φ1.more q) _ (Ext.alloc hp) (m1.alloc hp ob')).here (((lr.ext e1).ext (Ext.alloc hp)).set i (.ref ?_)) (m1.alloc hp ob')
    rw [← m1.len, List.getElem?_append_right (Nat.le_refl _), Nat.sub_self]
    rfl
theorem s_setLc2 {tgE1 iter1 : Expr} {i : Nat} {y : Str} {py spos : Pos} {scope : Scope} {own : List (Str × Nat)} {own1 : List Nat} {tg tg1 : Tg} {mi mi1 : I} {mcs mcs1 : Es} {melt : E} {ifs ifs1 : List Expr} {fr : Bool} (hc : X.calm = true) (hN : X.N.Nodup) (hy : X.N[i]? = some y) (hyl : X.env.scope.names.lookup y = some .local)
    (hsw : swapsWith (.ListComp elt [⟨tgE, iter, ifs, 0⟩, ⟨tgE1, iter1, ifs1, 0⟩] scope pos) (some (.Name y py)) spos.line X.env = pure true) (hi : PI X tgE iter (tI X.K W (evI cl mi))) (ok : BlkOk X.N X.env.scope scope own) (hix : ∀ i ∈ tgIx tg, i ∈ own.map (·.2)) (hix1 : ∀ i ∈ tgIx tg1, i ∈ own1) (hv : ∀ i ∈ own1, i ∈ own.map (·.2))
    (hg : ∀ (s : Shared) (H : Hp) (C : Addr) (l : List (Str × Addr)) (fp : List Addr), PG (X.blk s H scope (compEnvC scope l C X.env) fp) tgE (gT X.K tg)) (ht : ∀ (s : Shared) (H : Hp) (C : Addr) (l : List (Str × Addr)) (fp : List Addr), PTs (X.blk s H scope (compEnvC scope l C X.env) fp) ifs (tT X.K W0 (evC cl mcs)))
    (hi1 : ∀ (s : Shared) (H : Hp) (C : Addr) (l : List (Str × Addr)) (fp : List Addr), PI (X.blk s H scope (compEnvC scope l C X.env) fp) tgE1 iter1 (tI X.K W0 (evI cl mi1))) (hg1 : ∀ (s : Shared) (H : Hp) (C : Addr) (l : List (Str × Addr)) (fp : List Addr), PG (X.blk s H scope (compEnvC scope l C X.env) fp) tgE1 (gT X.K tg1)) (ht1 : ∀ (s : Shared) (H : Hp) (C : Addr) (l : List (Str × Addr)) (fp : List Addr), PTs (X.blk s H scope (compEnvC scope l C X.env) fp) ifs1 (tT X.K W0 (evC cl mcs1)))
    (he : ∀ (s : Shared) (H : Hp) (C : Addr) (l : List (Str × Addr)) (fp : List Addr), PE (X.blk s H scope (compEnvC scope l C X.env) fp) elt (tE X.K W0 (evE cl melt))) (hs : ∀ x, foldedSetIterable iter X.env x = pure x) (hs1 : ∀ env x, foldedSetIterable iter1 env x = pure x) :
    PS X (.Assign [.Name y py] (.ListComp elt [⟨tgE, iter, ifs, 0⟩, ⟨tgE1, iter1, ifs1, 0⟩] scope pos) spos) (tS X.K W (exS cl (.asg (.name i) (.new fr (.comp2 (own.map (·.2)) own1 melt tg mi mcs tg1 mi1 mcs1))))) := by
  refine imp_PS (ps_setLc2 hc hN hy hyl hsw hi ok hv hg ht hi1 hg1 ht1 he hs hs1) fun De σ H h => ?_
  show tLc2 _ _ _ _ _ _ _ _ _ σ H fun x H1 => gName i x σ H1 De.nx
  refine comp2_run hix hix1 ?_
  obtain ⟨L, φ, M, lr, mh, p⟩ := h
  have p' := PRS.thn lr (show PRS X.K W φ H ((evE cl (.new fr (.comp2 (own.map (·.2)) own1 melt tg mi mcs tg1 mi1 mcs1)) L M).then L fun d M1 => .next (L.set i (some d)) M1) De from p)
  refine ⟨L, φ, M, lr, mh, ?_⟩
  refine (PR.bind (show PR X.K W σ φ H ((evN cl (.comp2 (own.map (·.2)) own1 melt tg mi mcs tg1 mi1 mcs1) L M).bind fun d M1 => if fr then .ok d M1 else .ok (D.ref M1.length) (M1 ++ [d])) _ from p')).mono fun d M1 φ1 H1 e1 m1 g o q ob hp => ?_
  cases fr with
  | true =>
    rw [if_pos rfl] at g
    refine (g φ1 _ (Ext.new hp) (m1.new hp)).here (((lr.ext e1).ext (Ext.new hp)).set i ?_) (m1.new hp)
    cases ob with
    | lst r => exact .lst upd_same (m1.notin hp) (Reps.ext (Ext.new hp) _ _ r)
    | dct h1 _ h3 h4 => exact .dct upd_same (m1.notin hp) h1 h3 (RepP.ext (Ext.new hp) _ _ h4)
  | false =>
    rw [if_neg Bool.false_ne_true] at g
    have ob' : ObjAt X.K (φ1.more q) (upd H1 q o) d q := by
      cases ob with
      | lst r => exact .lst upd_same (Reps.ext (Ext.alloc hp) _ _ r)
      | dct h1 h2 h3 h4 => exact .dct upd_same h1 h2 h3 (RepP.ext (Ext.alloc hp) _ _ h4)
    refine (g (φ1.more q) _ (Ext.alloc hp) (m1.alloc hp ob')).here (((lr.ext e1).ext (Ext.alloc hp)).set i (.ref ?_)) (m1.alloc hp ob')
    rw [← m1.len, List.getElem?_append_right (Nat.le_refl _), Nat.sub_self]
    rfl
theorem s_par {i j : Nat} {x y : Str} {px py pt : Pos} {kt k2 : Nat} {pt2 : Pos} {mes : Es} (hc : X.calm = true) (hN : X.N.Nodup) (hi : X.N[i]? = some x) (hj : X.N[j]? = some y) (hij : i ≠ j)
    (hx : X.env.scope.names.lookup x = some .local) (hy : X.env.scope.names.lookup y = some .local) (ha : PA X [a, b] (tEs X.K W (evEs cl mes)))
    (hw : swappedStores [.Tuple [.Name x px, .Name y py] kt pt] (.Tuple [a, b] k2 pt2) X.env = pure (some [x, y]))
    (hs : swapsWithSole [.Tuple [.Name x px, .Name y py] kt pt] (.Tuple [a, b] k2 pt2) pos.line X.env = pure false) :
    PS X (.Assign [.Tuple [.Name x px, .Name y py] kt pt] (.Tuple [a, b] k2 pt2) pos) (tS X.K W (exS cl (.asg (.tup [i, j]) (.tup mes)))) := by
  refine imp_PS (ps_par hc hN hi hj hij hx hy ha hw hs) fun De σ H h => ?_
  obtain ⟨L, φ, M, lr, mh, p⟩ := h
  have p' := PRS.thn lr (show PRS X.K W φ H ((evE cl (.tup mes) L M).then L fun d M1 => match asg (.tup [i, j]) d L with | some L1 => .next L1 M1 | none => .bad) De from p)
  refine tEs_use lr mh (PR.bind (show PR X.K W σ φ H ((evEs cl mes L M).bind fun vs M1 => if vs.length ≤ lim then .ok (D.tup vs) M1 else .bad) _ from p')) fun ds M1 φ1 H1 vs e1 m1 g1 r1 => ?_
  split at g1
  · replace g1 := g1.here m1
    match ds, vs, r1 with
    | [], _, _ => exact False.elim g1
    | [_], _, _ => exact False.elim g1
    | _ :: _ :: _ :: _, _, _ => exact False.elim g1
    | [d1, d2], _, .cons q1 (.cons q2 .nil) =>
      exact ⟨_, _, rfl, (show PRS X.K W φ1 H1 (.next ((L.set i (some d1)).set j (some d2)) M1) De from g1).here (((lr.ext e1).set i q1).set j q2) m1⟩
  · exact False.elim g1
theorem s_aug {i : Nat} {x : Str} {o : Bop} {pos' : Pos} (hop : o ≠ .pow) (hN : X.N.Nodup) (hi : X.N[i]? = some x) (hx : Loc X.env.scope x) (ha : PE X a (tE X.K W (evE cl ma))) (hf : X.fn x = true ∨ X.env.scope.names.lookup x = some .local) : PS X (.AugAssign (.Name x pos') (opOf o) a pos) (tS X.K W (exS cl (.aug i o ma))) := by
  refine imp_PS (ps_aug hN hi hx ha (iop_int o hop) hf) fun De σ H h => ?_
  obtain ⟨L, φ, M, lr, mh, p⟩ := h
  replace p := show PRS X.K W φ H (match L[i]? with
    | some (some x) => (evE cl ma L M).then L fun y M1 => match x, y with | .int a, .int b => (match intS o a b with | some z => .next (L.set i (some (.int z))) M1 | none => .bad) | _, _ => .bad
    | _ => .bad) De from p
  split at p
  · rename_i d hd
    obtain ⟨v, h1, h2⟩ := lr.at_ i d hd
    refine ⟨v, h1, tE_use lr mh (PRS.thn lr p) fun d2 M1 φ1 H1 v2 e1 m1 g1 r1 => ?_⟩
    split at g1
    · cases h2
      cases r1
      rename_i a b
      cases hz : intS o a b with
      | none => rw [hz] at g1; exact False.elim g1
      | some z =>
        rw [hz] at g1
        exact ⟨_, _, _, rfl, rfl, hz, (show PRS X.K W φ1 H1 (.next (L.set i (some (.int z))) M1) De from g1).here ((lr.ext e1).set i (.int z)) m1⟩
    · exact False.elim g1
  · exact False.elim p
theorem s_setI (hu : X.A.units + 64 < cLine) (hwd : TabC.w = X.w) {tpos : Pos} (hv : PE X a (tE X.K W (evE cl ma))) (ho : PE X b (tE X.K W (evE cl mb))) (hi : PE X c (tE X.K W (evE cl mc)))
    (ha : ∀ v, assign (.Subscript b c tpos) X.env v = (do
      let ov ← holding [v] (eval b X.env)
      let iv ← holding [v, ov] (eval c X.env)
      standAt tpos
      holding [v, ov, iv] (setItem ov iv v)
      release [v, ov, iv] []))
    (hs : swapsWithSole [.Subscript b c tpos] a pos.line X.env = pure false) (hw : swappedStores [.Subscript b c tpos] a X.env = pure none) (h1 : (assignEach [.Subscript b c tpos] X.env).map (·.2) = [assign (.Subscript b c tpos) X.env]) :
    PS X (.Assign [.Subscript b c tpos] a pos) (tS X.K W (exS cl (.setI mb mc ma))) := by
  refine imp_PS (ps_asg hv (pg_sub ho hi (ps_setS hu hwd) ha) hs hw h1) fun De σ H h => ?_
  obtain ⟨L, φ, M, lr, mh, p⟩ := h
  refine tE_use lr mh (PRS.thn lr (show PRS X.K W φ H ((evE cl ma L M).then L fun v M1 => (evE cl mb L M1).then L fun x M2 => (evE cl mc L M2).then L fun y M3 => match setS M3 x y v with | some M4 => .next L M4 | none => .bad) De from p)) fun d M1 φ1 H1 v e1 m1 g1 r1 => ?_
  refine tE_use (lr.ext e1) m1 (PRS.thn (lr.ext e1) g1) fun d2 M2 φ2 H2 v2 e2 m2 g2 r2 => ?_
  refine tE_use ((lr.ext e1).ext e2) m2 (PRS.thn ((lr.ext e1).ext e2) g2) fun d3 M3 φ3 H3 v3 e3 m3 g3 r3 => ?_
  cases hs : setS M3 d2 d3 d with
  | none => rw [hs] at g3; exact False.elim g3
  | some M4 =>
    rw [hs] at g3
    refine ⟨φ3, M3, d2, d3, d, M4, m3, Rep.ext e3 _ _ r2, r3, Rep.ext (e2.trans e3) _ _ r1, hs, fun H' e m => ?_⟩
    exact (show PRS X.K W φ3 H3 (.next L M4) De from g3) φ3 H' σ e m ((lr.ext e1).ext (e2.trans (e3.trans e)))
theorem s_for {tg : Tg} {mi : I} {body : List Stmt} (hp : PassesOwn (model X.prog X.w) X.A X.env X.xe) (hc : X.calm = true) (hi : PI X tgE iter (tI X.K W (evI cl mi))) (hg : PG X tgE (gT X.K tg)) (hb : PSs X body (tS X.K W (exSs cl mss)))
    (hs : ∀ x, foldedSetIterable iter X.env x = pure x) : PS X (.For tgE iter body [] pos) (tS X.K W (exS cl (.for tg mi mss))) := by
  refine imp_PS (ps_for hp hc hi hg hb hs) fun De σ H h => ?_
  obtain ⟨L, φ, M, lr, mh, p⟩ := h
  refine ⟨L, φ, M, lr, mh, (PRS.thn lr (show PRS X.K W φ H ((evI cl mi L M).then L fun w M1 => forL w tg (exSs cl mss) w.items L M1) De from p)).mono fun w M1 φ1 H1 e1 m1 g1 => ?_⟩
  intro J hJ
  refine ⟨fun i m σ H => m = w.items.length - i ∧ i ≤ w.items.length ∧ ∃ L φ M, Ext φ1 H1 φ H ∧ LR X.K φ H L σ ∧ MH X.K φ H M ∧ PRS X.K W φ H (forL w tg (exSs cl mss) (w.items.drop i) L M) De, ⟨w.items.length, by simp, Nat.zero_le _, L, φ1, M1, Ext.refl, lr.ext e1, m1, g1⟩, ?_⟩
  rintro i m σ2 H2 ⟨rfl, hi, L2', φ2, M2, e2, lr2, m2, g2⟩
  have hw := hJ φ2 H2 M2 e2.weak m2
  by_cases hlt : i < w.items.length
  · rw [List.drop_eq_getElem_cons hlt] at g2
    unfold forL at g2
    split at g2
    · rename_i hok
      obtain ⟨go, hy⟩ := (hw hok i).2 w.items[i] (List.getElem?_eq_getElem hlt)
      split at g2
      · exact False.elim g2
      · rename_i L3 ha
        refine .inr ⟨go, fun σ' H' => ∃ L φ M, Ext φ1 H1 φ H' ∧ LR X.K φ H' L σ' ∧ MH X.K φ H' M ∧ PRS X.K W φ H' (forL w tg (exSs cl mss) (w.items.drop (i + 1)) L M) De, fun σ' H' q => ⟨w.items.length - (i + 1), by omega, rfl, hlt, q⟩, fun x H' y => ?_⟩
        obtain ⟨e3, m3, r3⟩ := hy x H' y
        refine ⟨L2', φ2, M2, w.items[i], L3, lr2.ext e3, m3, r3, ha, fun σ4 l4 _ => ⟨L3, φ2, M2, l4, m3, ?_⟩⟩
        cases hr : exSs cl mss L3 M2 with
        | next L5 M5 => rw [hr] at g2; exact fun φ' H' σ' e m l => ⟨L5, φ', M5, e2.trans (e3.trans e), l, m, PRS.ext g2 (e3.trans e)⟩
        | cont L5 M5 => rw [hr] at g2; exact fun φ' H' σ' e m l => ⟨L5, φ', M5, e2.trans (e3.trans e), l, m, PRS.ext g2 (e3.trans e)⟩
        | brk L5 M5 => rw [hr] at g2; exact PRS.ext (r := .next L5 M5) g2 e3
        | ret d M5 => rw [hr] at g2; exact PRS.ext (r := .ret d M5) g2 e3
        | exc c e L5 M5 => rw [hr] at g2; exact PRS.ext (r := .exc c e L5 M5) g2 e3
        | bad => rw [hr] at g2; exact g2
    · exact False.elim g2
  · have ei : i = w.items.length := by omega
    subst ei
    rw [List.drop_length] at g2
    unfold forL at g2
    split at g2
    · rename_i hok
      exact .inl ⟨(hw hok _).1 (Nat.le_refl _), (show PRS X.K W φ2 H2 (.next L2' M2) De from g2).here lr2 m2⟩
    · exact False.elim g2
theorem s_while {body : List Stmt} (hp : PassesOwn (model X.prog X.w) X.A X.env X.xe) (hc : PT X c (tT X.K W (evE cl mc))) (hb : PSs X body (tS X.K W (exSs cl mss))) : PS X (.While c body [] pos) (tS X.K W (exS cl (.whil mc mss))) := by
  refine imp_PS (ps_while hp hc hb) fun De σ H h => ?_
  obtain ⟨L, φ, M, lr, mh, p⟩ := h
  refine ⟨fun m σ H => ∃ L φ M, LR X.K φ H L σ ∧ MH X.K φ H M ∧ PRS X.K W φ H (whileL (evE cl mc) (exSs cl mss) m L M) De, ⟨cl.fuel, L, φ, M, lr, mh, p⟩, ?_⟩
  rintro m σ2 H2 ⟨L2', φ2, M2, lr2, m2, g2⟩
  cases m with
  | zero => exact False.elim g2
  | succ m =>
    refine tT_use lr2 m2 (PRS.thn lr2 (show PRS X.K W φ2 H2 ((evE cl mc L2' M2).then L2' fun x M1 => (ofO (truth M1 x) M1).then L2' fun k M1 => if k then
      match exSs cl mss L2' M1 with
      | .next L2 M2 => whileL (evE cl mc) (exSs cl mss) m L2 M2
      | .cont L2 M2 => whileL (evE cl mc) (exSs cl mss) m L2 M2
      | .brk L2 M2 => .next L2 M2
      | .ret d M2 => .ret d M2
      | .exc c e L2 M2 => .exc c e L2 M2
      | .bad => .bad
      else .next L2' M1) De from g2)) fun d M1 φ1 H1 e1 m1 g1 => ?_
    cases hk : truth M1 d with
    | none => rw [hk] at g1; exact False.elim g1
    | some k =>
      rw [hk] at g1
      refine ⟨k, rfl, ?_⟩
      cases k with
      | true =>
        rw [if_pos rfl]
        replace g1 := show PRS X.K W φ1 H1 (match exSs cl mss L2' M1 with
          | .next L2 M2 => whileL (evE cl mc) (exSs cl mss) m L2 M2
          | .cont L2 M2 => whileL (evE cl mc) (exSs cl mss) m L2 M2
          | .brk L2 M2 => .next L2 M2
          | .ret d M2 => .ret d M2
          | .exc c e L2 M2 => .exc c e L2 M2
          | .bad => .bad) De from g1
        refine ⟨fun σ' H' => ∃ L φ M, LR X.K φ H' L σ' ∧ MH X.K φ H' M ∧ PRS X.K W φ H' (whileL (evE cl mc) (exSs cl mss) m L M) De, fun σ' H' q => ⟨m, Nat.lt_succ_self _, q⟩, L2', φ1, M1, lr2.ext e1, m1, ?_⟩
        cases hr : exSs cl mss L2' M1 with
        | next L5 M5 => rw [hr] at g1; exact fun φ' H' σ' e m l => ⟨L5, φ', M5, l, m, PRS.ext g1 e⟩
        | cont L5 M5 => rw [hr] at g1; exact fun φ' H' σ' e m l => ⟨L5, φ', M5, l, m, PRS.ext g1 e⟩
        | brk L5 M5 => rw [hr] at g1; exact g1
        | ret d M5 => rw [hr] at g1; exact g1
        | exc c e L5 M5 => rw [hr] at g1; exact g1
        | bad => rw [hr] at g1; exact g1
      | false =>
        rw [if_neg Bool.false_ne_true]
        exact (show PRS X.K W φ1 H1 (.next L2' M1) De from g1).here (lr2.ext e1) m1
/-- raise C('text') -/
structure ExcOk (K : PySem.W.Frag) (x : Str) (C : Addr) : Prop where
  ns : PySem.W.nsIn K mainGlobals x = some (some (.ref C))
  own : ∃ (B newId initId : String) (bmB : List Value), ExcBaseFacts B newId initId bmB ∧ PySem.W.excIn K C bmB newId = true
  keep : PySem.W.keepIn K (.ref C) = true
  base : PySem.W.subIn K (.ref C) (.type "BaseException") = some true
  ty : PySem.W.typeIn K (.ref C) = some (.type "type")
theorem s_raise {x m : Str} {j : Nat} {p p2 p3 : Pos} {C : Addr} (hc : X.calm = true) (tk : Takes X W) (ok : ExcOk X.K x C) (hm : X.mg x = some (.ref C)) (hg : Gl X x) (hdb : (x == ("__debug__" : Str)) = false) :
    PS X (.Raise (some (.Call (.Name x p) [.Constant (.str m) j p2] [] p3)) none pos) (tS X.K W (exS cl (.raise x .nil))) := by
  obtain ⟨B, newId, initId, bmB, F, q⟩ := ok.own
  refine imp_PS (ps_raise hc tk (pmk_own F q hm ok.keep (raises_own ok.base ok.ty) hg hdb)) fun De σ H h => ?_
  obtain ⟨L, φ, M, lr, mh, p⟩ := h
  exact (show PRS X.K W φ H (.exc x .non L M) De from p) φ H σ (.ref C) none Ext.refl mh lr ⟨C, ok.ns, rfl, .inl ⟨rfl, rfl⟩⟩
end
end MP
/-! MiniPy D9: dict comprehensions. -/
namespace MP
open PySem PySem.Spec PyProof.Rows L2
variable [TabC]
/-- the dict in the making takes y: z -/
def PutD (K : PySem.W.Frag) (D : Addr) (y z : V) (H : Hp) (Nx : Hp → Prop) : Prop := ∃ (φ : Ph) (o : Obj) (es : Array DictEntry) (ep : Nat) (l : List (MP.D × MP.D)) (vs : List (V × V)) (yd zd : MP.D) (q : Nat × List (MP.D × MP.D)),
  H D = some (exO D o) ∧ RawD D o es ep ∧ EntsOk l vs es.toList ∧ RepP K φ H l vs ∧ Rep K φ H yd y ∧ Rep K φ H zd z ∧ dPut 0 l yd zd = some q ∧
  ∀ (o' : Obj) (es' : Array DictEntry) (ep' : Nat) (vs' : List (V × V)), RawD D o' es' ep' → EntsOk q.2 vs' es'.toList → RepP K φ H q.2 vs' → Nx (upd H D (exO D o'))
theorem put_step {X : Cx} {pins : List (Addr × Obj)} {σ : L2.St} {H : Hp} {s : Shared} {E : Value → Shared → Prop} {D : Addr} {y z : V} {u r : Value} {Q : Unit → Shared → Prop} {Nx : Hp → Prop} (hu : X.A.units + 64 < cLine) (hw : TabC.w = X.w) (I : Inv X pins σ H s) (p : PutD X.K D y z H Nx) (ry : RelV y u) (rz : RelV z r)
    (h : ∀ s' H', Inv X pins σ H' s' → Nx H' → Q () s') : wpAny (model X.prog X.w) X.A (dictSet D u r) Q E s := by
  obtain ⟨φ, o, es, ep, l, vs, yd, zd, q, h2, h3, h5, h6, rb, rd, hp, fin⟩ := p
  unfold dPut at hp
  split at hp
  · rename_i hl
    rw [Option.bind_eq_some_iff] at hp
    obtain ⟨k, hk, hp⟩ := hp
    obtain ⟨t3, t4⟩ := tKey_is hk
    obtain ⟨xs, e1, e2⟩ := ys_of hw I h5.2 h6
    have key : KOk s.heap k u := ⟨nested_of I yd _ _ _ rb ry t3, t4⟩
    have room : X.A.units + 8 < cLine := by omega
    have wr : ∀ {h' : Heap} {t' : Nat} {o' : Obj}, h'.get? D = some o' → Heap.SameBut D s.heap h' → Inv X pins σ (upd H D (exO D o')) { s with heap := h', toks := t' } := fun {h' t' o'} g1 g4 =>
      d_write I (by rw [h2]; exact True.intro) g4 ⟨_, g1⟩ ⟨g1, ⟨_, g1⟩, fun h1 h2 f k => k _ f⟩
    have hsz : es.size = l.length := by
      rw [← Array.length_toList]
      exact h5.2.len.1
    refine wp_dictSet room key (exO_at I h2) h3.ex h3.dat e1 e2.is (e2.nodup h5.1) h3.sz (fun j p hj h' o' g1 g2 g3 g4 => ?_) fun hno h' o' g1 g2 g3 g4 => ?_
    · obtain ⟨kd, d', u0, v', f1, f2, f3, f4⟩ := e2.get hj
      rw [dIx_of h5.1 f1 f2] at hp
      cases hp
      refine h _ _ (wr g1 g4) (fin o' _ _ _ ⟨g2, g3, h3.low, by rw [Array.size_modify]; exact h3.sz⟩ ⟨by rw [keys_mod]; exact h5.1, ?_⟩ (h6.mod rd j))
      have : (es.modify j fun e => { e with val := r }).toList = es.toList.modify j fun e => { e with val := r } := by
        obtain ⟨es⟩ := es
        simp
      rw [this]
      exact h5.2.mod rz j
    · have hno' := e2.not hno
      rw [hno'] at hp
      cases hp
      refine h _ _ (wr g1 g4) (fin o' _ _ _ ⟨g2, g3, h3.low, by rw [Array.size_push, hsz]; exact hl⟩ ⟨nodup_push h5.1 t3 hno', ?_⟩ (h6.push rb rd))
      rw [Array.toList_push]
      have := h5.2.push (d := zd) t3 t4 ry rz
      rw [hw] at this
      exact this
  · cases hp
/-- {k: v for target in iter if ..}: D the new dict -/
def tDcN (K : PySem.W.Frag) (wi : TI) (g : TG) (tt : TT) (tk tv : TE) (vs : List Nat) : TE := fun σ H Q => wi σ H fun J H1 => ∀ D, H1 D = none → (D == sysModules) = false → ∃ W : Nat → Nat → Hp → Prop, (∃ m, W 0 m (upd H1 D (exO D dict0O))) ∧ ∀ i m H, W i m H →
  (J.stop i H ∧ Q (.ref D) H) ∨ (J.go i H ∧ ∃ Nx : Hp → Prop, (∀ H', Nx H' → ∃ m', m' < m ∧ W (i + 1) m' H') ∧ ∀ x H', J.yld i H x H' → g x (L2.wipe σ vs) H' fun σ2 H2 => L2.wipe σ2 vs = L2.wipe σ vs ∧ tt σ2 H2 fun b H3 =>
    if b = true then tk σ2 H3 fun y H4 => tv σ2 H4 fun z H5 => PutD K D y z H5 Nx else Nx H3)
section
variable {X : Cx}
theorem dcn_core {pins : List (Addr × Obj)} {s : Shared} {σ : L2.St} {H : Hp} {Q : VK} {kx vx tg iter : Expr} {ifs : List Expr} {scope : Scope} {own : List (Str × Nat)} {pos pos' : Pos} {wi : TI} {g : TG} {tt : TT} {tk tv : TE} {use : Option (Value → Sem Unit)} {Qf : Value → Shared → Prop}
    (hu : X.A.units + 64 < cLine) (hw : TabC.w = X.w) (hc : X.calm = true) (hN : X.N.Nodup) (I : Inv X pins σ H s) (hi : PI X tg iter wi) (ok : BlkOk X.N X.env.scope scope own)
    (hg : ∀ (s : Shared) (H : Hp) (C : Addr) (cl : List (Str × Addr)) (fp : List Addr), PG (X.blk s H scope (compEnvC scope cl C X.env) fp) tg g) (ht : ∀ (s : Shared) (H : Hp) (C : Addr) (cl : List (Str × Addr)) (fp : List Addr), PTs (X.blk s H scope (compEnvC scope cl C X.env) fp) ifs tt)
    (hk : ∀ (s : Shared) (H : Hp) (C : Addr) (cl : List (Str × Addr)) (fp : List Addr), PE (X.blk s H scope (compEnvC scope cl C X.env) fp) kx tk)
    (he : ∀ (s : Shared) (H : Hp) (C : Addr) (cl : List (Str × Addr)) (fp : List Addr), PE (X.blk s H scope (compEnvC scope cl C X.env) fp) vx tv) (hs : ∀ x, foldedSetIterable iter X.env x = pure x)
    (h : tDcN X.K wi g tt tk tv (own.map (·.2)) σ H Q)
    (hRR : ∀ D C s' m H', Inv X pins σ H' s' → Q (.ref D) H' → s'.heap.Ns C m → FpOk X pins H' C → compPost (model X.prog X.w) X.A X.xe use Qf (.ref D) C (.ok .next) s') :
    wpAny (model X.prog X.w) X.A (comprehension (.DictComp kx vx [⟨tg, iter, ifs, 0⟩] scope pos) scope X.env pos' newDict false (eval iter X.env) use) Qf X.xe s := by
  have hfree : ∀ y ∈ scope.names, y.2 = .free → ∃ c, X.env.cells.lookup y.1 = some c := fun y hy e => by
    rcases ok.free y hy e with k | k
    · exact I.ok.has _ (.inl k)
    · exact I.ok.has _ (.inr k)
  refine wpAny_comprehension_free (use := use) rfl hs (closure_ok hfree) ok.kind (fun y hy e => by rw [ok.uniq y hy, e])
    (thn (hi.run pins s σ H _ I h) fun xv s1 hx => thn hx fun itv s2 h2 => ?_)
  obtain ⟨it, fp, tn, J, H2, e, I2, T, st2, f2, q⟩ := h2
  subst e
  refine wpAny_newObj_type (newEnv_comp ?_)
  have hlow : (s2.heap.objs.size == sysModules) = false := beq_eq_false_iff_ne.mpr (Ne.symm (Nat.ne_of_lt I2.big))
  generalize hD : s2.heap.objs.size = D at hlow
  obtain ⟨W, ⟨m0, w0⟩, turn⟩ := q D (I2.hok.fresh (Nat.le_of_eq hD)) hlow
  generalize hs3 : ({ s2 with heap := s2.heap.push dict0O } : Shared) = s3
  have h3 : s3.heap = s2.heap.push dict0O := by rw [← hs3]
  have I3 : Inv X pins σ (upd H2 D (exO D dict0O)) s3 := by
    have e1 : (s2.heap.push dict0O).get? D = some dict0O := by
      rw [← hD]
      exact Heap.get?_push_size _ rfl
    rw [← hs3]
    exact I2.laid (t' := s2.toks) (fun b o e => Heap.get?_push_of_some _ e) (Nat.le_of_eq hD) ⟨e1, ⟨_, e1⟩, fun h1 h2 f k => k _ f⟩
  have f3 : ∀ b ∈ fp, FpOk X pins (upd H2 D (exO D dict0O)) b ∧ b < s3.heap.objs.size := fun b hb => by
    obtain ⟨o, e, _⟩ := T.obj _ _ st2 b hb
    have hlt := Heap.lt_size e
    refine ⟨⟨?_, (f2 b hb).2⟩, by rw [h3, Heap.size_push]; exact Nat.lt_succ_of_lt hlt⟩
    rw [upd_ne (by rw [← hD]; exact Nat.ne_of_lt hlt)]
    exact (f2 b hb).1
  have st3 : tn 0 s3.heap := T.keep _ _ _ st2 fun b _ o e => by rw [h3]; exact Heap.get?_push_of_some _ e
  have I4 := block_start I3 ok hN f3
  have pg := hg s3 (upd H2 D (exO D dict0O)) s3.heap.objs.size (cellsFrom (s3.heap.objs.size + 1) scope.names (cloFrom X.env.cells scope.names [])) fp
  have pt := ht s3 (upd H2 D (exO D dict0O)) s3.heap.objs.size (cellsFrom (s3.heap.objs.size + 1) scope.names (cloFrom X.env.cells scope.names [])) fp
  have pk := hk s3 (upd H2 D (exO D dict0O)) s3.heap.objs.size (cellsFrom (s3.heap.objs.size + 1) scope.names (cloFrom X.env.cells scope.names [])) fp
  have pe := he s3 (upd H2 D (exO D dict0O)) s3.heap.objs.size (cellsFrom (s3.heap.objs.size + 1) scope.names (cloFrom X.env.cells scope.names [])) fp
  show codeAny _ _ (.compStart (.DictComp kx vx [⟨tg, iter, ifs, 0⟩] scope pos) 0 (.ref it) (.ref D) (compEnvC scope (cellsFrom (s3.heap.objs.size + 1) scope.names (cloFrom X.env.cells scope.names [])) s3.heap.objs.size X.env)) (compPost (model X.prog X.w) X.A X.xe use Qf (.ref D) s3.heap.objs.size) { s3 with heap := pushCells (s3.heap.push { cls := .type "dict", data := .dict #[] }) scope.names }
  have nfp : ∀ b ∈ fp, (upd H2 D (exO D dict0O)) b = none := fun b hb => (f3 b hb).1.1
  generalize hce : compEnvC scope (cellsFrom (s3.heap.objs.size + 1) scope.names (cloFrom X.env.cells scope.names [])) s3.heap.objs.size X.env = ce at I4 pg pt pk pe ⊢
  have cL : ce.locals = s3.heap.objs.size := by subst hce; rfl
  generalize hH3 : upd H2 D (exO D dict0O) = H3 at I3 I4 pg pt pk pe w0 nfp f3
  generalize hs4 : ({ s3 with heap := pushCells (s3.heap.push { cls := .type "dict", data := .dict #[] }) scope.names } : Shared) = s4 at I4 ⊢
  have st4 : tn 0 s4.heap := T.keep _ _ _ st3 fun b _ o e => by rw [← hs4]; exact pushCells_keeps _ _ _ _ (Heap.get?_push_of_some _ e)
  have stat : ∀ {σ' : L2.St} {H' : Hp} {s' : Shared}, Inv (X.blk s3 H3 scope ce fp) [] σ' H' s' → (∀ b ∈ fp, H' b = none) → ∀ b ∈ fp, FpOk (X.blk s3 H3 scope ce fp) [] H' b := fun {σ' H' s'} I' hn b hb =>
    ⟨hn b hb, (I'.ok.exf b hb).1, I'.ok.exfs b hb, .inl hb, fun x c e => (I'.ok.exf b hb).2 x c e, fun p hp => absurd (show p ∈ ([] : List (Addr × Obj)) ++ [] from hp) (by simp)⟩
  have loop : codeAny (model X.prog X.w) X.A (.compLoop (.DictComp kx vx [⟨tg, iter, ifs, 0⟩] scope pos) 0 (.ref it) (.ref D) ce) (compPost (model X.prog X.w) X.A X.xe use Qf (.ref D) s3.heap.objs.size) s4 := by
    refine compLoop_anyD (fun n s' => ∃ i H', Inv (X.blk s3 H3 scope ce fp) [] (L2.wipe σ (own.map (·.2))) H' s' ∧ tn i s'.heap ∧ (∀ b ∈ fp, H' b = none) ∧ W i n H') ?_ m0 ⟨0, H3, I4, st4, nfp, w0⟩
    rintro n s5 ⟨i, H5, I5, st5, n5, w5⟩
    rcases turn i n H5 w5 with ⟨stop, qq⟩ | ⟨go, Nx, hNx, step⟩
    · refine thnF (T.done (X.blk s3 H3 scope ce fp) rfl rfl rfl hc i [] s5 _ H5 (fun _ _ => False) I5 (stat I5 n5) st5 stop) fun r s6 ⟨hr, I6⟩ => ?_
      subst hr
      have I7 : Inv X pins σ H5 s6 := I3.call' (ch := fp) I6.os I6.base I6.hok I6.bare fun b hb => ⟨(f3 b hb).1.2.2.2.1, (f3 b hb).1.2.1, (f3 b hb).1.2.2.2.2.1, (f3 b hb).1.2.2.2.2.2⟩
      have nC : H5 s3.heap.objs.size = none := by
        have z : H5 ce.locals = none := I6.free
        rw [cL] at z
        exact z
      obtain ⟨m, hn, _⟩ := I6.loc
      have hn : s6.heap.Ns ce.locals m := hn
      rw [cL] at hn
      exact hRR D s3.heap.objs.size s6 m H5 I7 qq hn (I3.fpOk (Nat.le_refl _) nC)
    · refine thnF (T.item (X.blk s3 H3 scope ce fp) rfl rfl rfl hc i [] s5 _ H5 (fun _ _ => False) I5 (stat I5 n5) st5 go) fun r s6 ⟨u, hr, h6⟩ => ?_
      subst hr
      refine thnF h6 fun _ s7 ⟨x, H7, I7, r7, y7, st7, n7⟩ => ?_
      have I7' := I7.pinned (stat I7 n7) (T.obj _ _ st7)
      refine thnF (pg.run _ s7 _ H7 x u _ I7' r7 (step x H7 y7)) fun _ s8 ⟨σ8, H8, I8, hw8, q8⟩ => ?_
      refine thnF (pt.run _ s8 σ8 H8 _ I8 q8) fun b s9 ⟨H9, I9, q9⟩ => ?_
      have fin : ∀ {s' : Shared} {H' : Hp}, Inv (X.blk s3 H3 scope ce fp) ([] ++ pinsAt fp s7.heap) σ8 H' s' → Nx H' → ∃ m, m < n ∧ ∃ i H', Inv (X.blk s3 H3 scope ce fp) [] (L2.wipe σ (own.map (·.2))) H' s' ∧ tn i s'.heap ∧ (∀ b ∈ fp, H' b = none) ∧ W i m H' := fun {s' H'} I' nx => by
        obtain ⟨m', hm, w'⟩ := hNx H' nx
        have pin' : ∀ b ∈ fp, ∀ o, s7.heap.get? b = some o → s'.heap.get? b = some o ∧ H' b = none := fun b hb o e =>
          let z := I'.pin (b, o) (List.mem_append_right _ (List.mem_append_right _ (mem_pinsAt hb e)))
          ⟨z.1, z.2.1⟩
        have hl : (L2.wipe σ (own.map (·.2))).length = σ8.length := by rw [← hw8, wipe_length]
        refine ⟨m', hm, i + 1, H', (I'.unpinned (pins := [])).weak hl (fun j v e => ?_), T.keep _ _ _ st7 fun b hb o e => (pin' b hb o e).1, fun b hb => ?_, w'⟩
        · rw [← hw8] at e
          exact (wipe_some e).1
        · obtain ⟨o, e, _⟩ := T.obj _ _ st7 b hb
          exact (pin' b hb o e).2
      cases b with
      | false =>
        simp only [Bool.false_eq_true, if_false] at q9 ⊢
        exact fin I9 q9
      | true =>
        simp only [if_true] at q9 ⊢
        refine thnF (pk.run _ s9 σ8 H9 _ I9 q9) fun z s10 ⟨yk, H10, I10, r10, q10⟩ => ?_
        refine thnF (pe.run _ s10 σ8 H10 _ I10 q10) fun z2 s11 ⟨yv, H11, I11, r11, pd⟩ => ?_
        exact put_step (X := X.blk s3 H3 scope ce fp) hu hw I11 pd r10 r11 fun s12 H12 I12 nx => fin I12 nx
  exact codeAny_compStart_dict loop (T.self X.A 0 _ _ _ st4 loop)
theorem pe_dcn {kx vx tg iter : Expr} {ifs : List Expr} {scope : Scope} {own : List (Str × Nat)} {pos : Pos} {wi : TI} {g : TG} {tt : TT} {tk tv : TE} (hu : X.A.units + 64 < cLine) (hw : TabC.w = X.w) (hc : X.calm = true) (hN : X.N.Nodup) (hi : PI X tg iter wi) (ok : BlkOk X.N X.env.scope scope own)
    (hg : ∀ (s : Shared) (H : Hp) (C : Addr) (cl : List (Str × Addr)) (fp : List Addr), PG (X.blk s H scope (compEnvC scope cl C X.env) fp) tg g) (ht : ∀ (s : Shared) (H : Hp) (C : Addr) (cl : List (Str × Addr)) (fp : List Addr), PTs (X.blk s H scope (compEnvC scope cl C X.env) fp) ifs tt)
    (hk : ∀ (s : Shared) (H : Hp) (C : Addr) (cl : List (Str × Addr)) (fp : List Addr), PE (X.blk s H scope (compEnvC scope cl C X.env) fp) kx tk)
    (he : ∀ (s : Shared) (H : Hp) (C : Addr) (cl : List (Str × Addr)) (fp : List Addr), PE (X.blk s H scope (compEnvC scope cl C X.env) fp) vx tv) (hs : ∀ x, foldedSetIterable iter X.env x = pure x) :
    PE X (.DictComp kx vx [⟨tg, iter, ifs, 0⟩] scope pos) (tDcN X.K wi g tt tk tv (own.map (·.2))) := by
  refine ⟨fun pins s σ H Q I h => ?_⟩
  rw [arm_eval_DictComp]
  refine dcn_core hu hw hc hN I hi ok hg ht hk he hs h fun D C s' m H' I' q hn f => ⟨m, hn, fun h'' sb => ?_⟩
  obtain ⟨f0, f1, f2, f3, f4, f5⟩ := f
  exact ⟨.ref D, H', I'.turned (t' := s'.toks) (fun b o hb e => (sb.2 b hb).trans e) f0 f1 f3 f4 f5, rfl, q⟩
end
end MP
/-! MiniPy D10: dict comprehensions, by values. -/
namespace MP
open PySem PySem.Spec PyProof.Rows L2
variable [TabC]
theorem dcompL_nil {w : Wk} {tg : Tg} {L : Lo} {cnd kf vf : Lo → List D → R D} {l lf : List (D × D)} {M M2 : List D} (h : dcompL w tg L cnd kf vf [] l M = .ok lf M2) : w.ok M = true ∧ lf = l ∧ M2 = M := by
  unfold dcompL at h
  split at h
  · cases h
    exact ⟨by assumption, rfl, rfl⟩
  · cases h
theorem dcompL_cons {w : Wk} {tg : Tg} {L : Lo} {cnd kf vf : Lo → List D → R D} {x : D} {r : List D} {l lf : List (D × D)} {M M2 : List D} (h : dcompL w tg L cnd kf vf (x :: r) l M = .ok lf M2) :
    w.ok M = true ∧ ∃ L1 c Mc k, asg tg x L = some L1 ∧ cnd L1 M = .ok c Mc ∧ truth Mc c = some k ∧ if k = true then ∃ y My z Mz q, kf L1 Mc = .ok y My ∧ vf L1 My = .ok z Mz ∧ dPut 0 l y z = some q ∧ dcompL w tg L cnd kf vf r q.2 Mz = .ok lf M2 else dcompL w tg L cnd kf vf r l Mc = .ok lf M2 := by
  unfold dcompL at h
  split at h
  · rename_i hok
    refine ⟨hok, ?_⟩
    split at h
    · cases h
    · rename_i L1 hL1
      obtain ⟨c, Mc, h1, h⟩ := bind_inv h
      obtain ⟨k, Mk, h2, h⟩ := bind_inv h
      obtain ⟨h2, rfl⟩ := ofO_inv h2
      refine ⟨L1, c, _, k, hL1, h1, h2, ?_⟩
      cases k with
      | true =>
        rw [if_pos rfl] at h ⊢
        obtain ⟨y, My, h3, h⟩ := bind_inv h
        obtain ⟨z, Mz, h4, h⟩ := bind_inv h
        obtain ⟨q, Mq, h5, h6⟩ := bind_inv h
        obtain ⟨h5', rfl⟩ := ofO_inv h5
        exact ⟨y, My, z, _, q, h3, h4, h5', h6⟩
      | false =>
        rw [if_neg Bool.false_ne_true] at h ⊢
        exact h
  · cases h
/-- where a dict comprehension stands before its i-th turn -/
def CSD (K : PySem.W.Frag) (φ1 : Ph) (H1 : Hp) (δ : Addr) (w : Wk) (run : List MP.D → List (MP.D × MP.D) → List MP.D → R (List (MP.D × MP.D))) (lf : List (MP.D × MP.D)) (M2 : List MP.D) (i : Nat) (H : Hp) : Prop :=
  ∃ o es ep l vs φ2 Mi, Bx φ1 H1 δ φ2 H ∧ MH K φ2 H Mi ∧ H δ = some (exO δ o) ∧ RawD δ o es ep ∧ EntsOk l vs es.toList ∧ RepP K φ2 H l vs ∧ run (w.items.drop i) l Mi = .ok lf M2
theorem RepP.ex1' {K : PySem.W.Frag} {φ φ' : Ph} {H H' : Hp} (e : Ex1 φ H φ' H') {l : List (D × D)} {vs : List (V × V)} (h : RepP K φ H l vs) : RepP K φ' H' l vs := RepP.ex1 e _ _ h
theorem dcomp_run {K : PySem.W.Frag} {W : WX} {cl : Cl} {own : List Nat} {mk mv : E} {tg : Tg} {mi : I} {mcs : Es} {σ : L2.St} {H : Hp} {Q : VK} {tt : TT} (htt : ∀ σ H Q, tT K W0 (evC cl mcs) σ H Q → tt σ H Q) (hix : ∀ i ∈ tgIx tg, i ∈ own)
    (h : tE K W (evE cl (.dcomp own mk mv tg mi mcs)) σ H Q) : tDcN K (tI K W (evI cl mi)) (gT K tg) tt (tE K W0 (evE cl mk)) (tE K W0 (evE cl mv)) own σ H Q := by
  obtain ⟨L, φ, M, lr, mh, p⟩ := h
  refine ⟨L, φ, M, lr, mh, (PR.bind (show PR K W σ φ H ((evI cl mi L M).bind fun w M1 =>
      if w.items.length ≤ lim then ((dcompL w tg (wipe L own) (evC cl mcs) (evE cl mk) (evE cl mv) w.items [] M1).nx).bind fun l M2 => .ok (D.dct 0 l) M2 else .bad) _ from p)).mono fun w M1 φ1 H1 e1 m1 g1 => ?_⟩
  intro J hJ δ hD hlow
  split at g1
  · rename_i hlim
    cases hrun : dcompL w tg (wipe L own) (evC cl mcs) (evE cl mk) (evE cl mv) w.items [] M1 with
    | bad => rw [hrun] at g1; exact False.elim g1
    | exc c e M' => rw [hrun] at g1; exact False.elim g1
    | ok lf M2 =>
      rw [hrun] at g1
      replace g1 := show PR K W σ φ1 H1 (R.ok (D.dct 0 lf) M2) (fun d M' φ' H' => ∀ v, Rep K φ' H' d v → Q v H') from g1
      generalize hrn : (fun l k M => dcompL w tg (wipe L own) (evC cl mcs) (evE cl mk) (evE cl mv) l k M) = run at *
      have hr0 : run w.items [] M1 = .ok lf M2 := by rw [← hrn]; exact hrun
      have nx0 : NX (exO δ dict0O) := exO_nx rfl
      refine ⟨fun i m H => m = w.items.length - i ∧ i ≤ w.items.length ∧ CSD K φ1 H1 δ w run lf M2 i H, ⟨w.items.length, by simp, Nat.zero_le _, ?_⟩, ?_⟩
      · exact ⟨dict0O, #[], 0, [], [], { φ1 with b := δ :: φ1.b }, M1, Bx.start m1 hD, by
          have x := Bx.start (φ1 := φ1) (H1 := H1) (o := exO δ dict0O) m1 hD
          refine ⟨m1.nd, m1.len, fun b hb => ?_, m1.tab.ext fun b u hu => by rw [upd_ne (ne_of_none hu hD)]; exact hu, fun n a d h1 h2 => ?_⟩
          · rcases List.mem_cons.mp hb with z | z
            · rw [z]
              exact ⟨(m1.notin hD).1, _, upd_same, nx0⟩
            · obtain ⟨n, u, hu, hx⟩ := m1.bar b z
              exact ⟨n, u, by rw [upd_ne (ne_of_none hu hD)]; exact hu, hx⟩
          · refine (m1.at_ n a d h1 h2).ex1 (x.weak hD) (upd_ne fun z => (m1.notin hD).1 ?_)
            rw [← z]
            exact List.mem_of_getElem? h1, upd_same, raw0 hlow, ⟨List.nodup_nil, True.intro⟩, .nil, hr0⟩
      · rintro i m H2 ⟨rfl, hi, o, es, ep, l, vs, φ2, Mi, bx, m2, hDa, hraw, hent, ra, hr⟩
        have hnx : NX (exO δ o) := exO_nx hraw.dat
        have hw := hJ φ2 H2 Mi (bx.weak hD) m2
        by_cases hlt : i < w.items.length
        · have hdrop : w.items.drop i = w.items[i] :: w.items.drop (i + 1) := List.drop_eq_getElem_cons hlt
          rw [hdrop, ← hrn] at hr
          obtain ⟨hok, L1, c, Mc, k, ha, hc, hk, hrest⟩ := dcompL_cons hr
          obtain ⟨_, hgo⟩ := hw hok i
          obtain ⟨go, hy⟩ := hgo w.items[i] (List.getElem?_eq_getElem hlt)
          refine .inr ⟨go, fun H' => CSD K φ1 H1 δ w run lf M2 (i + 1) H', fun H' c => ⟨w.items.length - (i + 1), by omega, rfl, hlt, c⟩, fun x H' y => ?_⟩
          obtain ⟨e3, m3, r3⟩ := hy x H' y
          have lr3 : LR K φ2 H' (wipe L own) (L2.wipe σ own) := ((lr.ext e1).ex1 (bx.weak hD)).ext e3 |>.wipe own
          refine ⟨wipe L own, φ2, Mi, w.items[i], L1, lr3, m3, r3, ha, fun σ1 lr4 hv => ?_⟩
          obtain ⟨vals, hv⟩ := hv
          refine ⟨by rw [hv]; exact wipe_setAll hix, htt _ _ _ ⟨L1, φ2, Mi, lr4, m3, ?_⟩⟩
          rw [hc]
          intro φ4 H4 e4 m4
          refine ⟨k, hk, ?_⟩
          have e34 := e3.trans e4
          cases k with
          | false =>
            rw [if_neg Bool.false_ne_true] at hrest
            show CSD K φ1 H1 δ w run lf M2 (i + 1) H4
            refine ⟨o, es, ep, l, vs, φ4, Mc, bx.next e34 hDa hnx.1, m4, (e34.keep δ _ hDa hnx.1 bx.out).1, hraw, hent, RepP.ext e34 _ _ ra, ?_⟩
            rw [← hrn]
            exact hrest
          | true =>
            rw [if_pos rfl] at hrest
            show tE K W0 (evE cl mk) σ1 H4 fun y H5 => tE K W0 (evE cl mv) σ1 H5 fun z H6 => PutD K δ y z H6 fun H' => CSD K φ1 H1 δ w run lf M2 (i + 1) H'
            obtain ⟨y', My, z', Mz, q, hky, hvz, hput, hr'⟩ := hrest
            refine ⟨L1, φ4, Mc, lr4.ext e4, m4, ?_⟩
            rw [hky]
            intro φ5 H5 e5 m5 v rv
            refine ⟨L1, φ5, My, (lr4.ext e4).ext e5, m5, ?_⟩
            rw [hvz]
            intro φ6 H6 e6 m6 u ru
            have e36 := (e34.trans e5).trans e6
            have hD6 := (e36.keep δ _ hDa hnx.1 bx.out).1
            have bx6 := bx.next e36 hDa hnx.1
            refine ⟨φ6, o, es, ep, l, vs, y', z', q, hD6, hraw, hent, RepP.ext e36 _ _ ra, Rep.ext e6 _ _ rv, ru, hput, fun o' es' ep' vs' hraw' hent' rp' => ?_⟩
            refine ⟨o', es', ep', q.2, vs', φ6, Mz, bx6.put hD _, bx6.putM m6 _ (exO_nx hraw'.dat), upd_same, hraw', hent', RepP.ex1' (bx6.put1 _) rp', ?_⟩
            rw [← hrn]
            exact hr'
        · have ei : i = w.items.length := by omega
          subst ei
          rw [List.drop_length, ← hrn] at hr
          obtain ⟨hok, rfl, rfl⟩ := dcompL_nil hr
          refine .inl ⟨(hw hok _).1 (Nat.le_refl _), ?_⟩
          have m' := bx.finM m1 hD m2
          have hn : dropA H2 δ δ = none := if_pos rfl
          have q := g1 { φ2 with b := φ1.b } H2 ((bx.fin hD).trans (by
            have := Ext.new (φ := { φ2 with b := φ1.b }) (o := exO δ o) hn
            rw [dropA_upd hDa] at this
            exact this)) (by
            have := m'.new (o := exO δ o) hn
            rw [dropA_upd hDa] at this
            exact this) (.ref δ)
          refine q (.dct hDa ?_ hraw hent ?_)
          · exact m'.notin hn
          · have r1 := RepP.ex1' bx.fin1 ra
            have := RepP.ext (Ext.new (φ := { φ2 with b := φ1.b }) (o := exO δ o) hn) _ _ r1
            rw [dropA_upd hDa] at this
            exact this
  · exact False.elim g1
section
variable {X : Cx} {W : WX} {cl : Cl}
theorem me_dcomp {kx vx tgE iter : Expr} {scope : Scope} {own : List (Str × Nat)} {pos : Pos} {tg : Tg} {mi : I} {mcs : Es} {mk mv : E} {ifs : List Expr} (hu : X.A.units + 64 < cLine) (hw : TabC.w = X.w) (hc : X.calm = true) (hN : X.N.Nodup) (hi : PI X tgE iter (tI X.K W (evI cl mi))) (ok : BlkOk X.N X.env.scope scope own) (hix : ∀ i ∈ tgIx tg, i ∈ own.map (·.2))
    (hg : ∀ (s : Shared) (H : Hp) (C : Addr) (l : List (Str × Addr)) (fp : List Addr), PG (X.blk s H scope (compEnvC scope l C X.env) fp) tgE (gT X.K tg)) (ht : ∀ (s : Shared) (H : Hp) (C : Addr) (l : List (Str × Addr)) (fp : List Addr), PTs (X.blk s H scope (compEnvC scope l C X.env) fp) ifs (tT X.K W0 (evC cl mcs)))
    (hk : ∀ (s : Shared) (H : Hp) (C : Addr) (l : List (Str × Addr)) (fp : List Addr), PE (X.blk s H scope (compEnvC scope l C X.env) fp) kx (tE X.K W0 (evE cl mk)))
    (hv : ∀ (s : Shared) (H : Hp) (C : Addr) (l : List (Str × Addr)) (fp : List Addr), PE (X.blk s H scope (compEnvC scope l C X.env) fp) vx (tE X.K W0 (evE cl mv))) (hs : ∀ x, foldedSetIterable iter X.env x = pure x) :
    PE X (.DictComp kx vx [⟨tgE, iter, ifs, 0⟩] scope pos) (tE X.K W (evE cl (.dcomp (own.map (·.2)) mk mv tg mi mcs))) :=
  imp_PE (pe_dcn hu hw hc hN hi ok hg ht hk hv hs) fun σ H Q h => dcomp_run (fun _ _ _ h => h) hix h
end
end MP
/-! MiniPy D11: dict displays whose keys are tuples. -/
namespace MP
open PySem PySem.Spec PyProof.Rows L2
variable [TabC]
/-- the pairs of a display are stored in the dict at p -/
def StoreD (K : PySem.W.Frag) (p : Addr) (ps : List (V × V)) (H : Hp) (Nx : Hp → Prop) : Prop := ∃ (φ : Ph) (r : List (MP.D × MP.D)) (l : List (MP.D × MP.D)), p ∈ φ.b ∧
  H p = some (exO p dict0O) ∧ RepP K φ H r ps ∧ dispS r = some l ∧ ∀ (o' : Obj) (es' : Array DictEntry) (ep' : Nat) (vs' : List (V × V)), RawD p o' es' ep' → EntsOk l vs' es'.toList → RepP K φ H l vs' → Nx (upd H p (exO p o'))
def tDispN (K : PySem.W.Frag) (trs : List (TE × TE)) : TE := fun σ H Q => ∀ p, H p = none → (p == sysModules) = false → tPairs trs σ (upd H p (exO p dict0O)) fun ps H2 => StoreD K p ps H2 fun H' => Q (.ref p) H'
section
variable {X : Cx} {pins : List (Addr × Obj)} {σ : L2.St} {H : Hp} {s : Shared} {φ : Ph}
theorem barred_ex {K : PySem.W.Frag} {p : Addr} {o o' : HO} (hb : p ∈ φ.b) : Ex1 φ (upd H p o) φ (upd H p o') := ⟨⟨[], by simp⟩, fun b u h _ n => by
  have hne : b ≠ p := fun z => n.2 (z ▸ hb)
  rw [upd_ne hne] at h ⊢
  exact ⟨h, n⟩⟩
theorem barred_to {p : Addr} {o : HO} (hb : p ∈ φ.b) : Ex1 φ H φ (upd H p o) := ⟨⟨[], by simp⟩, fun b u h _ n => by
  have hne : b ≠ p := fun z => n.2 (z ▸ hb)
  rw [upd_ne hne]
  exact ⟨h, n⟩⟩
theorem barred_of {p : Addr} {o : HO} (hb : p ∈ φ.b) : Ex1 φ (upd H p o) φ H := ⟨⟨[], by simp⟩, fun b u h _ n => by
  have hne : b ≠ p := fun z => n.2 (z ▸ hb)
  rw [upd_ne hne] at h
  exact ⟨h, n⟩⟩
theorem dPut_zero {l : List (MP.D × MP.D)} {y d : MP.D} {q : Nat × List (MP.D × MP.D)} (h : dPut 0 l y d = some q) : q.1 = 0 := by
  unfold dPut at h
  split at h
  · rw [Option.bind_eq_some_iff] at h
    obtain ⟨k, _, h⟩ := h
    split at h <;> (cases h; rfl)
  · cases h
/-- the pairs, stored one after the other -/
theorem store_run (hu : X.A.units + 64 < cLine) (hw : TabC.w = X.w) {p : Addr} (hb : p ∈ φ.b) {Q : Shared → Prop} : ∀ {ps : List (V × V)} {r : List (MP.D × MP.D)} {ws : List (Value × Value)} {s : Shared} {l l' : List (MP.D × MP.D)} {vs : List (V × V)} {o : Obj} {es : Array DictEntry} {ep e' : Nat},
    VV ps ws → RepP X.K φ H r ps → Inv X pins σ (upd H p (exO p o)) s → RawD p o es ep → EntsOk l vs es.toList → RepP X.K φ H l vs → dPuts 0 l r = some (e', l') →
    (∀ (s' : Shared) (o' : Obj) (es' : Array DictEntry) (ep' : Nat) (vs' : List (V × V)), Inv X pins σ (upd H p (exO p o')) s' → RawD p o' es' ep' → EntsOk l' vs' es'.toList → RepP X.K φ H l' vs' → Q s') →
    wpAny (model X.prog X.w) X.A (storeAll p ws) (fun _ s2 => Q s2) X.xe s
  | [], r, _, s, l, l', vs, o, es, ep, e', v, rr, I, raw, ent, rl, hp, fin => by
    cases v
    cases rr
    cases hp
    unfold storeAll
    rw [List.forIn_nil]
    exact wpAny_pure (fin s o es ep vs I raw ent rl)
  | (yk, zv) :: ps, r, _, s, l, l', vs, o, es, ep, e', v, rr, I, raw, ent, rl, hp, fin => by
    cases rr with
    | @cons kd d _ _ r1 _ h1 h2 h3 =>
      cases v with
      | @cons a b as bs v1 v2 =>
        unfold dPuts at hp
        rw [Option.bind_eq_some_iff] at hp
        obtain ⟨q, hq, hp⟩ := hp
        have q0 := dPut_zero hq
        rw [q0] at hp
        have to : ∀ {o : HO}, Ex1 φ H φ (upd H p o) := fun {o} => barred_to hb
        unfold storeAll
        rw [List.forIn_cons]
        refine wpAny_bind (wpAny_bind (put_step (Nx := fun H' => ∃ (o' : Obj) (es' : Array DictEntry) (ep' : Nat) (vs' : List (V × V)), H' = upd H p (exO p o') ∧ RawD p o' es' ep' ∧ EntsOk q.2 vs' es'.toList ∧ RepP X.K φ H q.2 vs') hu hw I
          ⟨φ, o, es, ep, l, vs, kd, d, q, upd_same, raw, ent, RepP.ex1 to _ _ rl, Rep.ex1 to _ _ h1, Rep.ex1 to _ _ h2, hq, fun o' es' ep' vs' g1 g2 g3 => ⟨o', es', ep', vs', upd_upd, g1, g2, RepP.ex1 (barred_of hb) _ _ g3⟩⟩ v1.1 v1.2 fun s' H' I' nx => ?_))
        obtain ⟨o', es', ep', vs', rfl, g1, g2, g3⟩ := nx
        exact wpAny_pure (store_run hu hw hb v2 h3 I' g1 g2 g3 hp fin)
theorem pe_dispN {pos : Pos} {keys : List (Option Expr)} {values : List Expr} {trs : List (TE × TE)} (hu : X.A.units + 64 < cLine) (hw : TabC.w = X.w) (h : PPs X pos keys values trs) (hall : keys.all (·.isSome) = true) (hl : keys.length = values.length) (h0 : keys ≠ [])
    (h15 : keys.length ≤ 15) : PE X (.Dict keys values pos) (tDispN X.K trs) := by
  refine ⟨fun pins s σ H Q I q => ?_⟩
  have hn := I.hok.fresh (Nat.le_refl s.heap.objs.size)
  have hlow : (s.heap.objs.size == sysModules) = false := beq_eq_false_iff_ne.mpr (Ne.symm (Nat.ne_of_lt I.big))
  have e1 : (s.heap.push dict0O).get? s.heap.objs.size = some dict0O := Heap.get?_push_size _ rfl
  have I1 : Inv X pins σ (upd H s.heap.objs.size (exO s.heap.objs.size dict0O)) { s with heap := s.heap.push dict0O } := I.laid (a := s.heap.objs.size) (t' := s.toks) (fun _ _ q => Heap.get?_push_of_some _ q) (Nat.le_refl _) ⟨e1, ⟨_, e1⟩, fun h1 h2 f k => k _ f⟩
  refine wpAny_Dict_any hall hl h0 h15 (thn (h.run pins _ σ _ _ I1 (q _ hn hlow)) fun ws s2 ⟨ps, H2, I2, rel, φ, r, l, hb, hp, rr, hd, fin⟩ => ?_)
  unfold dispS at hd
  split at hd
  · rw [Option.map_eq_some_iff] at hd
    obtain ⟨⟨e', l'⟩, hd, hq⟩ := hd
    replace hq : l' = l := hq
    subst hq
    have I3 : Inv X pins σ (upd H2 s.heap.objs.size (exO s.heap.objs.size dict0O)) s2 := by
      have e : upd H2 s.heap.objs.size (exO s.heap.objs.size dict0O) = H2 := by
        funext b
        by_cases z : b = s.heap.objs.size
        · rw [z, upd_same, hp]
        · exact upd_ne z
      rw [e]
      exact I2
    refine store_run hu hw hb rel rr I3 ⟨⟨rfl, rfl, rfl⟩, rfl, hlow, Nat.zero_le _⟩ (⟨List.nodup_nil, True.intro⟩ : EntsOk ([] : List (MP.D × MP.D)) ([] : List (V × V)) []) .nil hd fun s' o' es' ep' vs' I' g1 g2 g3 => ?_
    exact ⟨.ref s.heap.objs.size, _, I', rfl, fin o' es' ep' vs' g1 g2 g3⟩
  · cases hd
end
end MP
/-! MiniPy D12: dict displays by values. -/
namespace MP
open PySem PySem.Spec PyProof.Rows L2
variable [TabC]
def flatE : List (E × E) → Es
  | [] => .nil
  | m :: r => .cons m.1 (.cons m.2 (flatE r))
section
variable {K : PySem.W.Frag} {φ1 φ2 : Ph} {H1 H2 : Hp} {δ : Addr} {M1 M2 : List D}
/-- a new dict stands barred -/
theorem bar_start (m1 : MH K φ1 H1 M1) (hD : H1 δ = none) {o : HO} (nx : NX o) : MH K { φ1 with b := δ :: φ1.b } (upd H1 δ o) M1 := by
  have x := Bx.start (φ1 := φ1) (H1 := H1) (o := o) m1 hD
  refine ⟨m1.nd, m1.len, fun b hb => ?_, m1.tab.ext fun b u hu => by rw [upd_ne (ne_of_none hu hD)]; exact hu, fun n a d h1 h2 => ?_⟩
  · rcases List.mem_cons.mp hb with z | z
    · rw [z]
      exact ⟨(m1.notin hD).1, _, upd_same, nx⟩
    · obtain ⟨n, u, hu, hx⟩ := m1.bar b z
      exact ⟨n, u, by rw [upd_ne (ne_of_none hu hD)]; exact hu, hx⟩
  · refine (m1.at_ n a d h1 h2).ex1 (x.weak hD) (upd_ne fun z => (m1.notin hD).1 ?_)
    rw [← z]
    exact List.mem_of_getElem? h1
/-- it is done: a dict by value -/
theorem bx_done {o : Obj} {es : Array DictEntry} {ep : Nat} {l : List (D × D)} {vs : List (V × V)} (bx : Bx φ1 H1 δ φ2 H2) (m1 : MH K φ1 H1 M1) (hD : H1 δ = none) (m2 : MH K φ2 H2 M2) (hDa : H2 δ = some (exO δ o)) (hraw : RawD δ o es ep) (hent : EntsOk l vs es.toList) (ra : RepP K φ2 H2 l vs) :
    Ext φ1 H1 { φ2 with b := φ1.b } H2 ∧ MH K { φ2 with b := φ1.b } H2 M2 ∧ Rep K { φ2 with b := φ1.b } H2 (.dct 0 l) (.ref δ) := by
  have m' := bx.finM m1 hD m2
  have hn : dropA H2 δ δ = none := if_pos rfl
  have e1 : Ext { φ2 with b := φ1.b } (dropA H2 δ) { φ2 with b := φ1.b } H2 := by
    have := Ext.new (φ := { φ2 with b := φ1.b }) (o := exO δ o) hn
    rw [dropA_upd hDa] at this
    exact this
  have m3 := m'.new (o := exO δ o) hn
  rw [dropA_upd hDa] at m3
  exact ⟨(bx.fin hD).trans e1, m3, .dct hDa (m'.notin hn) hraw hent (RepP.ext e1 _ _ (RepP.ex1' bx.fin1 ra))⟩
/-- the pairs, one behind the other -/
theorem pairs_run {cl : Cl} {σ : L2.St} : ∀ {ms : List (E × E)} {L : Lo} {φ : Ph} {H : Hp} {M M' : List D} {vs : List D} {Q : List (V × V) → Hp → Prop}, LR K φ H L σ → MH K φ H M → evEs cl (flatE ms) L M = .ok vs M' →
    (∀ φ' H' ps r, Ext φ H φ' H' → MH K φ' H' M' → pairUp vs = some r → RepP K φ' H' r ps → Q ps H') → tPairs (ms.map fun m => (tE K W0 (evE cl m.1), tE K W0 (evE cl m.2))) σ H Q
  | [], L, φ, H, M, M', vs, Q, lr, mh, hr, q => by
    cases hr
    exact q φ H [] [] Ext.refl mh rfl .nil
  | m :: ms, L, φ, H, M, M', vs, Q, lr, mh, hr, q => by
    replace hr : ((evE cl m.1 L M).bind fun v M1 => ((evE cl m.2 L M1).bind fun v M1 => (evEs cl (flatE ms) L M1).bind fun vs M2 => .ok (v :: vs) M2).bind fun vs M2 => .ok (v :: vs) M2) = .ok vs M' := hr
    obtain ⟨x, M1, h1, hr⟩ := bind_inv hr
    obtain ⟨ys, M2, hr2, hr3⟩ := bind_inv hr
    obtain ⟨y, M3, h2, hr4⟩ := bind_inv hr2
    obtain ⟨zs, M4, h3, hr5⟩ := bind_inv hr4
    cases hr5
    cases hr3
    show tE K W0 (evE cl m.1) σ H fun x H1 => tE K W0 (evE cl m.2) σ H1 fun y H2 => tPairs _ σ H2 fun ps H3 => Q ((x, y) :: ps) H3
    refine ⟨L, φ, M, lr, mh, ?_⟩
    rw [h1]
    intro φ1 H1 e1 m1 v rv
    refine ⟨L, φ1, M1, lr.ext e1, m1, ?_⟩
    rw [h2]
    intro φ2 H2 e2 m2 u ru
    refine pairs_run ((lr.ext e1).ext e2) m2 h3 fun φ3 H3 ps r e3 m3 hp rp => ?_
    refine q φ3 H3 ((v, u) :: ps) ((x, y) :: r) ((e1.trans e2).trans e3) m3 ?_ (.cons (Rep.ext e3 _ _ (Rep.ext e2 _ _ rv)) (Rep.ext e3 _ _ ru) rp)
    unfold pairUp
    rw [hp]
    rfl
theorem dsp_run {W : WX} {cl : Cl} {ms : List (E × E)} {σ : L2.St} {H : Hp} {Q : VK} (h : tE K W (evE cl (.dsp (flatE ms))) σ H Q) : tDispN K (ms.map fun m => (tE K W0 (evE cl m.1), tE K W0 (evE cl m.2))) σ H Q := by
  obtain ⟨L, φ, M, lr, mh, p⟩ := h
  replace p := show PR K W σ φ H (((evEs cl (flatE ms) L M).nx).bind fun vs M1 => (ofO ((pairUp vs).bind dispS) M1).bind fun l M2 => .ok (D.dct 0 l) M2) _ from p
  intro δ hD hlow
  cases hrun : evEs cl (flatE ms) L M with
  | bad => rw [hrun] at p; exact False.elim p
  | exc c e M' => rw [hrun] at p; exact False.elim p
  | ok vs M2 =>
    rw [hrun] at p
    have nx0 : NX (exO δ dict0O) := exO_nx rfl
    have bx0 := Bx.start (φ1 := φ) (H1 := H) (o := exO δ dict0O) mh hD
    refine pairs_run (lr.ex1 (bx0.weak hD)) (bar_start mh hD nx0) hrun fun φ2 H2 ps r e2 m2 hp rp => ?_
    replace p := show PR K W σ φ H ((ofO ((pairUp vs).bind dispS) M2).bind fun l M2 => .ok (D.dct 0 l) M2) _ from p
    rw [hp] at p
    cases hd : dispS r with
    | none =>
      rw [show (some r).bind dispS = dispS r from rfl, hd] at p
      exact False.elim p
    | some l =>
      rw [show (some r).bind dispS = dispS r from rfl, hd] at p
      have hD2 := (e2.keep δ _ upd_same nx0.1 bx0.out).1
      have bx2 := bx0.next e2 upd_same nx0.1
      refine ⟨φ2, r, l, by rw [e2.bar]; exact List.mem_cons_self, hD2, rp, hd, fun o' es' ep' vs' hraw hent rp' => ?_⟩
      have bx3 := bx2.put hD (exO δ o')
      have m3 := bx2.putM m2 (exO δ o') (exO_nx hraw.dat)
      obtain ⟨q1, q2, q3⟩ := bx_done bx3 mh hD m3 upd_same hraw hent (RepP.ex1' (bx2.put1 _) rp')
      exact p _ _ q1 q2 _ q3
end
section
variable {X : Cx} {W : WX} {cl : Cl} {pos : Pos}
theorem pps_of : ∀ {ks : List Expr} {vs : List Expr} {ms : List (E × E)}, ks.length = ms.length → vs.length = ms.length → (∀ (i : Nat) (k : Expr) (m : E × E), ks[i]? = some k → ms[i]? = some m → PE X k (tE X.K W0 (evE cl m.1))) → (∀ (i : Nat) (v : Expr) (m : E × E), vs[i]? = some v → ms[i]? = some m → PE X v (tE X.K W0 (evE cl m.2))) →
    PPs X pos (ks.map some) vs (ms.map fun m => (tE X.K W0 (evE cl m.1), tE X.K W0 (evE cl m.2)))
  | [], [], [], _, _, _, _ => pps_nil
  | k :: ks, v :: vs, m :: ms, h1, h2, hk, hv => pps_cons (hk 0 k m rfl rfl) (hv 0 v m rfl rfl) (pps_of (by simpa using h1) (by simpa using h2) (fun i k m a b => hk (i + 1) k m (by simpa using a) (by simpa using b)) fun i k m a b => hv (i + 1) k m (by simpa using a) (by simpa using b))
  | [], _ :: _, [], _, h, _, _ => by simp at h
  | _ :: _, _, [], h, _, _, _ => by simp at h
  | [], _, _ :: _, h, _, _, _ => by simp at h
  | _ :: _, [], _ :: _, _, h, _, _ => by simp at h
theorem me_dsp {ks vs : List Expr} {ms : List (E × E)} (hu : X.A.units + 64 < cLine) (hw : TabC.w = X.w) (h1 : ks.length = ms.length) (h2 : vs.length = ms.length) (h0 : ks ≠ []) (h15 : ks.length ≤ 15) (hk : ∀ (i : Nat) (k : Expr) (m : E × E), ks[i]? = some k → ms[i]? = some m → PE X k (tE X.K W0 (evE cl m.1))) (hv : ∀ (i : Nat) (v : Expr) (m : E × E), vs[i]? = some v → ms[i]? = some m → PE X v (tE X.K W0 (evE cl m.2))) :
    PE X (.Dict (ks.map some) vs pos) (tE X.K W (evE cl (.dsp (flatE ms)))) :=
  imp_PE (pe_dispN hu hw (pps_of h1 h2 hk hv) (by simp) (by simp [h1, h2]) (by simpa using h0) (by simpa using h15)) fun σ H Q h => dsp_run h
end
end MP
/-! MiniPy D13: stars in displays, calls of a variable that holds a def. -/
namespace MP
open PySem PySem.Spec PyProof.Rows L2
variable [TabC]
section
variable {X : Cx} {W : WX} {cl : Cl} {a : Expr} {es : List Expr} {ma : E} {ms : Es} {p pos : Pos}
theorem ma_star (ha : PE X a (tE X.K W (evE cl ma))) (hr : PA X es (tEs X.K W (evEs cl ms))) (hs : starEach (.Starred a p :: es) X.env = (true, eval a X.env) :: starEach es X.env) : PA X (.Starred a p :: es) (tEs X.K W (evEs cl (.star ma ms))) := by
  refine imp_PA (StX.pa_star ha hr hs) fun σ H Q h => ?_
  obtain ⟨L, φ, M, lr, mh, p⟩ := h
  refine tE_use lr mh (PR.bind (show PR X.K W σ φ H ((evE cl ma L M).bind fun v M1 => (ofO (starS M1 v) M1).bind fun us M1 => (evEs cl ms L M1).bind fun vs M2 => .ok (us ++ vs) M2) _ from p)) fun x M1 φ1 H1 v e1 m1 g1 r1 => ?_
  cases hx : starS M1 x with
  | none => rw [hx] at g1; exact False.elim g1
  | some us =>
    rw [hx] at g1
    have src : ∃ q xs, v = .ref q ∧ (SqT X.K H1 q xs ∨ SqL X.K H1 q xs) ∧ Reps X.K φ1 H1 us xs := by
      unfold starS at hx
      split at hx
      · rename_i l hl
        cases hx
        cases tup_at m1 r1 hl
        obtain ⟨q, xs, rfl, sq, r⟩ := r1.sqT
        exact ⟨q, xs, rfl, .inl sq, r⟩
      · rename_i l hl
        cases hx
        obtain ⟨q, xs, rfl, sq, r⟩ := lst_at m1 r1 hl
        exact ⟨q, xs, rfl, .inr (SqL.of sq), r⟩
      · cases hx
    obtain ⟨q, xs, rfl, sq, r⟩ := src
    refine ⟨q, xs, rfl, sq, ?_⟩
    refine tEs_use (lr.ext e1) m1 (PR.bind (show PR X.K W σ φ1 H1 ((evEs cl ms L M1).bind fun vs M2 => .ok (us ++ vs) M2) _ from g1)) fun ds M2 φ2 H2 vs e2 m2 g2 r2 => ?_
    exact g2.here m2 _ ((Reps.ext e2 _ _ r).append r2)
/-- a call of the variable i -/
def tCallV (X : Cx) (W : WX) (i : Nat) (t : TA) : TE := fun σ H Q => ∃ k f fd ps sp, FnOk X.prog X.w X.K X.mg X.base (L2.CX X.prog X.w) k f fd ps sp ∧ Room k X.A ∧ PySem.W.keepIn X.K (.ref f) = true ∧ Binds X.K fd ps [] ∧ σ[i]? = some (some (.ref f)) ∧ t σ H fun vs H1 => sp vs H1 Q (WE W σ)
theorem pe_callV {i : Nat} {x : Str} {t : TA} (hN : X.N[i]? = some x) (hv : Vis X.env.scope x) (tk : Takes X W) (ha : PA X (a :: es) t) (hdb : (x == ("__debug__" : Str)) = false) (hcd : (x == ("__classdict__" : Str)) = false)
    (he : starEach (a :: es) X.env = (false, eval a X.env) :: starEach es X.env) (hpl : (backTo pos (starEach es X.env)).any (·.1) = false) : PE X (.Call (.Name x p) (a :: es) [] pos) (tCallV X W i t) := by
  refine ⟨fun pins s σ H Q I h => ?_⟩
  obtain ⟨k, f, fd, ps, sp, F, hr, hk, hb, hs, h⟩ := h
  refine wpAny_Call_Name_kw (thn ((pe_var (pos := p) hN hv hdb hcd).run pins s σ H (fun v H1 => v = .ref f ∧ H1 = H) I ⟨.ref f, hs, rfl, rfl⟩) fun u s1 ⟨v, H1, I1, r1, q1⟩ => ?_)
  obtain ⟨rfl, rfl⟩ := q1
  cases r1
  refine PySem.W.callWith_K (h₀ := X.base) I.ok.mod.kin hk (thn (ha.run pos pins s1 σ _ _ I1 h) fun us s2 ⟨vs, H2, I2, r, q⟩ => ⟨I2.kIn, ?_⟩) he hpl
  exact run_fnS F hr hb (passAt tk σ) I2 r q
theorem me_callv {i : Nat} {x : Str} (hF : ∀ n f, TabC.F[n]? = some f → ∃ k fd ps, FnOk X.prog X.w X.K X.mg X.base (L2.CX X.prog X.w) k f fd ps (spG X.K (cl.call n)) ∧ Room k X.A ∧ PySem.W.keepIn X.K (.ref f) = true ∧ Binds X.K fd ps [])
    (tk : Takes X W) (hN : X.N[i]? = some x) (hv : Vis X.env.scope x) (ha : PA X (a :: es) (tEs X.K W (evEs cl ms))) (hdb : (x == ("__debug__" : Str)) = false) (hcd : (x == ("__classdict__" : Str)) = false)
    (he : starEach (a :: es) X.env = (false, eval a X.env) :: starEach es X.env) (hpl : (backTo pos (starEach es X.env)).any (·.1) = false) : PE X (.Call (.Name x p) (a :: es) [] pos) (tE X.K W (evE cl (.callv (.var i) ms))) := by
  refine imp_PE (pe_callV hN hv tk ha hdb hcd he hpl) fun σ H Q h => ?_
  obtain ⟨L, φ, M, lr, mh, p⟩ := h
  replace p := show PR X.K W σ φ H ((evE cl (.var i) L M).bind fun x M1 => match x with | .fn n => (evEs cl ms L M1).bind fun vs M2 => cl.call n vs M2 | _ => .bad) _ from p
  have p' := PR.bind p
  rw [show evE cl (.var i) L M = (match L[i]? with | some (some d) => .ok d M | _ => .bad) from rfl] at p'
  split at p'
  · rename_i d hd
    obtain ⟨v, h1, h2⟩ := lr.at_ i d hd
    replace p' := p'.here mh
    cases d with
    | fn n =>
      cases h2 with
      | @fn _ f hf =>
        obtain ⟨k, fd, ps, F, hr, hk, hb⟩ := hF n f hf
        refine ⟨k, f, fd, ps, _, F, hr, hk, hb, h1, ?_⟩
        refine tEs_use lr mh (PR.bind p') fun ds M1 φ1 H1 vs e1 m1 g1 r1 => ?_
        refine ⟨φ1, M1, ds, m1, r1, ?_⟩
        cases hc : cl.call n ds M1 with
        | ok d M2 => rw [hc] at g1; exact g1
        | exc c e M2 => rw [hc] at g1; exact g1
        | bad => rw [hc] at g1; exact g1
    | _ => exact False.elim p'
  · exact False.elim p'
end
end MP
/-! MiniPy D14: list(d). -/
namespace MP
open PySem PySem.Spec PyProof.Rows L2
variable [TabC]
theorem src_raw {prog : Program} {w : World} {d : Addr} {es : Array DictEntry} {ep : Nat} (lo : (d == sysModules) = false) : PySem.W.KdlSrc prog w "dict" d d es.size (fun i v => ∃ hi : i < es.size, v = es[i].key) (fun h => h.DictRaw d es ep) where
  type := fun _ hm => hm.typeIs
  there := fun _ hm => by
    obtain ⟨o, ho, _⟩ := hm
    exact ⟨Heap.lt_size ho, Heap.lt_size ho⟩
  keep := fun _ _ hm hk => hm.at fun o e => hk d (.inl rfl) o e
  notList := by decide
  notTuple := by decide
  hint := fun _ _ _ _ hm hq => PySem.W.kdl_hint_dict hm.typeIs hq
  iter := fun _ _ hh hm => ⟨_, _, (fun _ _ hq => wpAny_pyIter_dict_raw lo hm hq), Walks.rawKeys hh _ d (by
    obtain ⟨o, ho, _⟩ := hm
    exact Nat.ne_of_lt (Heap.lt_size ho)) es ep, ⟨⟨_, Heap.get?_push_size _ rfl, rfl, rfl⟩, hm.at fun o e => Heap.get?_push_of_some _ e⟩⟩
/-- the keys of the dict at d -/
def KeysAt (H : Hp) (d : Addr) (ks : List V) : Prop := ∃ o es ep, H d = some (exO d o) ∧ RawD d o es ep ∧ es.size = ks.length ∧ ∀ (i : Nat) (v : V) (en : DictEntry), ks[i]? = some v → es[i]? = some en → RelV v en.key
theorem vals_at : ∀ {xs : List V} {us : List Value}, us.length = xs.length → (∀ (i : Nat) (x : V) (u : Value), xs[i]? = some x → us[i]? = some u → RelV x u) → Vals xs us
  | [], [], _, _ => .nil
  | x :: xs, u :: us, hl, h => .cons (h 0 x u rfl rfl) (vals_at (by simpa using hl) fun i a b h1 h2 => h (i + 1) a b (by simpa using h1) (by simpa using h2))
  | [], _ :: _, hl, _ => by simp at hl
  | _ :: _, [], hl, _ => by simp at hl
theorem keys_vals {d : Addr} {es : Array DictEntry} {ks : List V} {acc : Array Value} (hl : es.size = ks.length) (hk : ∀ (i : Nat) (v : V) (en : DictEntry), ks[i]? = some v → es[i]? = some en → RelV v en.key) (h : ItemsOf (fun i v => ∃ hi : i < es.size, v = es[i].key) acc es.size) : Vals ks acc.toList := by
  refine vals_at (by rw [Array.length_toList, ← hl]; exact h.1) fun i x u h1 h2 => ?_
  obtain ⟨hi, e⟩ := h.2 i u (by rw [← Array.getElem?_toList]; exact h2)
  rw [e]
  exact hk i x es[i] h1 (Array.getElem?_eq_getElem hi)
section
variable {X : Cx}
def rListD : List V → Hp → VK → Prop := fun xs H Q => ∃ d ks, xs = [V.ref d] ∧ KeysAt H d ks ∧ ∀ l, H l = none → Q (.ref l) (upd H l (.lst ks))
theorem call_listD (hc : X.calm = true) : CallR X (.type "list") rListD := by
  intro pins s σ H xs us Q I r h
  obtain ⟨d, ks, rfl, ⟨o, es, ep, h1, h2, h3, h4⟩, q⟩ := h
  obtain ⟨u, rfl, rx⟩ := vals1 r
  cases rx
  refine PySem.W.kdl_call (src_raw (es := es) (ep := ep) h2.low) (I.ok.hd hc) (raw_of I h1 h2) h2.sz fun h' tk acc c' kp e it => ?_
  have rv := keys_vals (d := d) h3 h4 it
  have hz : ks.length ≤ sizeLine := by
    rw [← h3]
    exact h2.sz
  refine ⟨.ref s.heap.objs.size, _, I.laid (t' := tk) (o := .lst ks) kp (Nat.le_refl _) (show ObjOk X.prog X.w _ h' _ (.lst ks) from ⟨hz, acc.toList, c', rv, ?_⟩), rfl, q _ (I.hok.fresh (Nat.le_refl _))⟩
  rw [Array.toArray_toList]
  exact e
end
section
variable {X : Cx} {W : WX} {cl : Cl} {a : Expr} {ma : E} {pos : Pos}
theorem keysAt_of {K : PySem.W.Frag} {φ : Ph} {H : Hp} {M : List D} {x : D} {v : V} {e : Nat} {l : List (D × D)} (m : MH K φ H M) (r : Rep K φ H x v) (h : cont M x = some (.dct e l)) : ∃ d ks, v = .ref d ∧ KeysAt H d ks ∧ Reps K φ H (l.map (·.1)) ks := by
  obtain ⟨a, o, es, ep, vs, rfl, h1, h2, h3, h4⟩ := dct_at m r h
  have hsz : es.size = l.length := by
    rw [← Array.length_toList]
    exact h3.2.len.1
  have hvl := h3.2.len.2
  have hr : ∀ {l : List (D × D)} {vs : List (V × V)}, RepP K φ H l vs → Reps K φ H (l.map (·.1)) (vs.map (·.1)) := by
    intro l
    induction l with
    | nil =>
      intro vs h
      cases h
      exact .nil
    | cons p l ih =>
      intro vs h
      cases h with
      | cons r1 r2 r3 => exact .cons r1 (ih r3)
  refine ⟨a, vs.map (·.1), rfl, ⟨o, es, ep, h1, h2, by rw [List.length_map, hvl, hsz], fun i v en g1 g2 => ?_⟩, hr h4⟩
  rw [List.getElem?_map, Option.map_eq_some_iff] at g1
  obtain ⟨q, hq, rfl⟩ := g1
  have hi : i < l.length := by
    rw [← hvl]
    exact (List.getElem?_eq_some_iff.mp hq).1
  obtain ⟨q', en', e1, e2, e3, e4⟩ := h3.2.at (List.getElem?_eq_getElem hi)
  rw [hq] at e1
  cases e1
  rw [Array.getElem?_toList, g2] at e2
  cases e2
  exact e3
theorem mn_listD {p : Pos} (hc : X.calm = true) (bn : BN X "list") (ha : PE X a (tE X.K W (evE cl ma))) (he : starEach [a] X.env = (false, eval a X.env) :: starEach [] X.env) : PE X (.Call (.Name "list" p) [a] [] pos) (tN X.K W (evN cl (.listD ma))) := by
  refine imp_PE (pe_callTy (call_listD hc) bn.gl bn.none (by decide +kernel) (pa_cons ha pa_nil he) (by decide) (by decide) he rfl) fun σ H Q h => ?_
  obtain ⟨L, φ, M, lr, mh, p⟩ := h
  refine tE_use lr mh (PR.bind (show PR X.K W σ φ H ((evE cl ma L M).bind fun x M1 => match cont M1 x with | some (.dct _ l) => .ok (D.lst (l.map (·.1))) M1 | _ => .bad) _ from p)) fun x M1 φ1 H1 v e1 m1 g1 r1 => ?_
  split at g1
  · rename_i e l hl
    obtain ⟨d, ks, rfl, kd, rk⟩ := keysAt_of m1 r1 hl
    exact ⟨d, ks, rfl, kd, fun q hq => g1.here m1 _ q (.lst rk) hq⟩
  · exact False.elim g1
end
end MP
/-! MiniPy 12: defs. -/
namespace MP
open PySem PySem.Spec PyProof.Rows L2
variable [TabC]

section
variable {K : PySem.W.Frag} {φ φ' : Ph} {H H' : Hp} {M M' : List D}
theorem Ext.tk (e : Ext φ H φ' H') (hl : φ.f.length = M.length) : Ext φ H (φ'.tk M.length) H' := by
  obtain ⟨t, e1⟩ := e.pre
  refine ⟨⟨[], ?_⟩, e.bar, fun b o h nt n => ?_⟩
  · show φ.f ++ [] = φ'.f.take M.length
    rw [← e1, ← hl, List.take_left', List.append_nil]
    rfl
  · obtain ⟨h1, h2⟩ := e.keep b o h nt n
    exact ⟨h1, fun z => h2 (List.mem_of_mem_take z)⟩
theorem clean_ok {E : XK} {d : D} {v : V} {Q : VK} (m : MH K φ H M) (e : Ext φ H φ' H') (m' : MH K φ' H' M') (r : Rep K φ' H' d v) (p : PR K (fun c d _ H => E c d H) [] φ H (clean M d M') fun d _ φ' H' => ∀ v, Rep K φ' H' d v → Q v H') : Q v H' := by
  unfold clean at p
  split at p
  · rename_i hc
    have hb : bels M.length (M'.take M.length) = true := by
      rw [Bool.or_eq_true] at hc
      rcases hc with hc | hc
      · rw [bqs_eq hc, ← m.len]
        exact m.bel
      · exact hc
    split at p
    · rename_i d' hd
      exact p _ H' (e.tk m.len) (m'.take hb) v (rep_frz m' r hd)
    · exact False.elim p
  · exact p _ H' e m' v r
theorem ends_ok {E : XK} {kp : Bool} {d : D} {v : V} {Q : VK} (m : MH K φ H M) (e : Ext φ H φ' H') (m' : MH K φ' H' M') (r : Rep K φ' H' d v) (p : PR K (fun c d _ H => E c d H) [] φ H (ends kp M d M') fun d _ φ' H' => ∀ v, Rep K φ' H' d v → Q v H') : Q v H' := by
  unfold ends at p
  split at p
  · exact p _ H' e m' v r
  · exact clean_ok m e m' r p
theorem endX_ok {E : XK} {c : Str} {x : D} {cls : Value} {dd : Option Addr} {G : D → List D → Ph → Hp → Prop} (m : MH K φ H M) (e : Ext φ H φ' H') (m' : MH K φ' H' M') (r : XRep K φ' H' c x cls dd) (p : PR K (fun c d _ H => E c d H) [] φ H (endX M c x M') G) : E cls dd H' := by
  unfold endX at p
  split at p
  · rename_i hc
    rw [Bool.and_eq_true, Bool.or_eq_true] at hc
    have hb : bels M.length (M'.take M.length) = true := by
      rcases hc.2 with hc | hc
      · rw [bqs_eq hc, ← m.len]
        exact m.bel
      · exact hc
    refine p _ H' cls dd (e.tk m.len) (m'.take hb) ?_
    obtain ⟨C, r1, r2, r3⟩ := r
    refine ⟨C, r1, r2, r3.imp id fun ⟨n, d, dx, v, e1, e2, e3, e4, e5⟩ => ⟨n, d, dx, v, e1, e2, e3, e4.tk, rep_bel _ _ e5 ?_⟩⟩
    have hd := hc.1
    rw [e1] at hd
    simpa [bel, bels] using hd
  · exact p _ H' cls dd e m' r
theorem fin_ok {kp : Bool} {E : XK} {Q : VK} {rs : RS} (m : MH K φ H M) (p : PR K (fun c d _ H => E c d H) [] φ H (fin kp M rs) fun d _ φ' H' => ∀ v, Rep K φ' H' d v → Q v H') :
    PRS K (fun c d _ H => E c d H) φ H rs { nx := fun _ H' => Q .non H', rt := Q } := by
  cases rs with
  | next L' M' => exact fun φ' H' σ' e m' l => ends_ok m e m' .non p
  | ret d M' => exact fun φ' H' v e m' r => ends_ok m e m' r p
  | brk L' M' => exact False.elim p
  | cont L' M' => exact False.elim p
  | exc c x L' M' => exact fun φ' H' σ' cls dd e m' l xr => endX_ok m e m' xr p
  | bad => exact p
/-- the caller's places are barred -/
abbrev Ph.own (φ : Ph) : Ph := ⟨[], φ.f ++ φ.b⟩
theorem own_out {a : Addr} : Out φ.own a ↔ Out φ a := by
  unfold Out
  show a ∉ [] ∧ a ∉ φ.f ++ φ.b ↔ _
  simp
theorem MH.own (m : MH K φ H M) : MH K φ.own H [] := ⟨List.nodup_nil, rfl, fun b hb => by
  refine ⟨by simp, ?_⟩
  rcases List.mem_append.mp hb with h | h
  · exact m.there h
  · exact (m.bar b h).2, m.tab, fun n a d h1 _ => by simp at h1⟩
theorem own_back (m : MH K φ H M) (e : Ext φ.own H φ' H') (m' : MH K φ' H' M') : Ext φ H φ H' ∧ MH K φ H' M ∧ ∀ a, Out φ' a → Out φ a := by
  have kp : ∀ b o, H b = some o → NT o → H' b = some o := fun b o h nt => (e.keep b o h nt (by simp)).1
  have ex : Ext φ H φ H' := ⟨⟨[], by simp⟩, rfl, fun b o h nt n => ⟨kp b o h nt, n⟩⟩
  refine ⟨ex, ⟨m.nd, m.len, fun b hb => ?_, m'.tab, fun n a d h1 h2 => ?_⟩, fun a n => ?_⟩
  · obtain ⟨n1, u, hu, hx⟩ := m.bar b hb
    exact ⟨n1, u, kp b u hu hx.1, hx⟩
  · obtain ⟨u, hu, hx⟩ := (m.at_ n a d h1 h2).there
    exact (m.at_ n a d h1 h2).ext ex ((kp a u hu hx.1).trans hu.symm)
  · have hb : φ'.b = φ.f ++ φ.b := e.bar
    have := n.2
    rw [hb, List.mem_append, not_or] at this
    exact this
theorem finP_ok {E : XK} {r : R D} {Q : VK} (m : MH K φ H M) (p : PR K (fun c d _ H => E c d H) [] φ H (finP M r) fun d _ φ' H' => ∀ v, Rep K φ' H' d v → Q v H') : PR K (fun c d _ H => E c d H) [] φ.own H r fun d _ φ' H' => ∀ v, Rep K φ' H' d v → Q v H' := by
  cases r with
  | bad => exact p
  | ok d M' =>
    intro φ' H' e m' v rv
    obtain ⟨x1, x2, x3⟩ := own_back m e m'
    replace p := show PR K (fun c d _ H => E c d H) [] φ H (if clo d = true then .ok d M else .bad) (fun d _ φ' H' => ∀ v, Rep K φ' H' d v → Q v H') from p
    split at p
    · rename_i hd
      exact p φ H' x1 x2 v (rep_clo x3 d v rv hd)
    · exact False.elim p
  | exc c x M' =>
    intro φ' H' cls dd e m' xr
    obtain ⟨x1, x2, x3⟩ := own_back m e m'
    replace p := show PR K (fun c d _ H => E c d H) [] φ H (if clo x = true then .exc c x M else .bad) (fun d _ φ' H' => ∀ v, Rep K φ' H' d v → Q v H') from p
    split at p
    · rename_i hd
      refine p φ H' cls dd x1 x2 ?_
      obtain ⟨C, r1, r2, r3⟩ := xr
      refine ⟨C, r1, r2, r3.imp id fun ⟨n, d, dx, v, e1, e2, e3, e4, e5⟩ => ⟨n, d, dx, v, e1, e2, e3, x3 _ e4, rep_clo x3 _ _ e5 ?_⟩⟩
      rw [e1] at hd
      simpa [clo, bel, bels] using hd
    · exact False.elim p
theorem lr_start {N : List Str} {args : List D} {vs : List V} (r : Reps K φ H args vs) (hl : args.length ≤ N.length) : LR K φ H (args.map some ++ List.replicate (N.length - args.length) none) (L2.start N vs) := by
  have hv := r.length
  refine ⟨?_, fun i d h => ?_⟩
  · unfold L2.start
    simp [hv]
  · by_cases hi : i < args.length
    · rw [List.getElem?_append_left (by simpa using hi), List.getElem?_map] at h
      cases ha : args[i]? with
      | none => rw [ha] at h; cases h
      | some x =>
        rw [ha] at h
        cases h
        obtain ⟨v, h1, h2⟩ := r.get ha
        refine ⟨v, ?_, h2⟩
        unfold L2.start
        rw [List.getElem?_append_left (by rw [List.length_map, ← hv]; exact hi), List.getElem?_map, h1]
        rfl
    · rw [List.getElem?_append_right (by simpa using hi), List.getElem?_replicate] at h
      split at h <;> cases h
/-- what a def's body is asked for -/
theorem body_ok {N : List Str} {T : List FD} {cl : Cl} {n m : Nat} {kp pu : Bool} {mss : Ss} {args : List D} {vs : List V} {Q : VK} {E : XK} (hT : T[n]? = some ⟨kp, m, N.length, mss, pu⟩) (hpl : m ≤ N.length) (mh : MH K φ H M) (r : Reps K φ H args vs)
    (p : PR K (fun c d _ H => E c d H) [] φ H (runB T cl n args M) fun d _ φ' H' => ∀ v, Rep K φ' H' d v → Q v H') : vs.length = m ∧ tS K (fun c d _ H => E c d H) (exSs cl mss) { nx := fun _ H' => Q .non H', rt := Q } (L2.start N vs) H := by
  unfold runB at p
  rw [hT] at p
  replace p := show PR K (fun c d _ H => E c d H) [] φ H (if args.length = m then (if pu then (if bels 0 args then finP M (fin false [] (exSs cl mss (args.map some ++ List.replicate (N.length - m) none) [])) else .bad) else fin kp M (exSs cl mss (args.map some ++ List.replicate (N.length - m) none) M)) else .bad) _ from p
  by_cases hl : args.length = m
  · rw [if_pos hl] at p
    refine ⟨by rw [← r.length]; exact hl, ?_⟩
    cases pu with
    | false =>
      rw [if_neg Bool.false_ne_true] at p
      refine ⟨_, φ, M, ?_, mh, fin_ok mh p⟩
      rw [← hl]
      exact lr_start r (by rw [hl]; exact hpl)
    | true =>
      rw [if_pos rfl] at p
      split at p
      · rename_i hc
        refine ⟨_, φ.own, [], ?_, mh.own, fin_ok mh.own (finP_ok mh p)⟩
        rw [← hl]
        exact lr_start (reps_clo (fun a ha => own_out.mpr ha) _ _ r hc) (by rw [hl]; exact hpl)
      · exact False.elim p
  · rw [if_neg hl] at p
    exact False.elim p
end
end MP
/-! MiniPy X1: own exceptions whose __init__ keeps its one argument. -/
namespace MP
open PySem PySem.Spec PyProof.Rows L2
def okNm (x : Str) : Bool := !(x == ("__debug__" : Str)) && !(x == ("__classdict__" : Str))
section
variable {P : Program} {w : World} {A : Around} {hp : Heap} {gs : Array GenState} {dr : Drawn} {t : Nat} {os : OsState} {K : PySem.W.Frag} {nm : Str} {tk : Tok} {v : Value} {x C t1 : Addr} {cd : ClassData} {B : String} {bmB : List Value} {R : Result → Shared → Prop}
/-- the first field, by the object's own rule -/
theorem osaX (SF : StoreFacts B bmB "object.__setattr__" "object") (KX : K.In hp) (hx : hp.get? x = some (PySem.HandSPX.excO C t1)) (hcd : PySem.W.clsIn K C = some cd) (hh : cd.hasDict = true) (ho : PySem.W.excOver K C bmB = true) (ht : PySem.W.takerIn K C nm = some none)
    (hq : ∀ h' t' dx, (∀ b o, b ≠ x → hp.get? b = some o → h'.get? b = some o) → hp.objs.size ≤ dx → dx ≠ x → h'.get? x = some { PySem.HandSPX.excO C t1 with dict := some dx } → h'.Ns1 dx (fun y => if y = nm then some v else none) → R (.ok (.ret .none)) ⟨h', gs, dr, t', os⟩) :
    codeAny (model P w) A (.call (.builtin "object.__setattr__") ⟨[.ref x, .str nm tk, v], []⟩) R ⟨hp, gs, dr, t, os⟩ := by
  have hxs : x ≠ hp.objs.size := Nat.ne_of_lt (Heap.lt_size hx)
  have hcls : PySem.W.Looks (model P w) hp (classData C) cd := PySem.W.looks_clsIn KX hcd
  refine PySem.W.osa_openX (s := ⟨hp, gs, dr, t, os⟩) (od := none) (r := none) SF KX ⟨hx, rfl, rfl, trivial⟩ ho ht fun b => ?_
  obtain ⟨c1, c2, c3, c4, c5, c6, c7, c8, c9, c10, c11⟩ := cd
  replace hh : c6 = true := hh
  subst hh
  unfold PySem.Builtin.ObjectAttr.storeInOwnDict PySem.Builtin.ObjectAttr.ownDictForStores
  repeat (first | with_reducible refine PySem.HandSPX.store_in_new ?_ ?_ | with_reducible refine wpAny_loadPart_at hx ?_ | with_reducible refine hcls.at ?_ | wp_step)
  · refine ⟨_, #[], _, (Heap.get?_update_ne _ _ _ _ hxs.symm).trans (Heap.get?_push_at rfl rfl), rfl, fun e he => ?_, fun _ => rfl⟩
    simp at he
  · intro h' t' hn hs
    have hx1 : (hp.push { cls := .type "dict", data := .dict #[] }).get? x = some (PySem.HandSPX.excO C t1) := Heap.get?_push_of_some _ hx
    refine hq h' t' hp.objs.size (fun b o hb ho => (hs.2 b (Nat.ne_of_lt (Heap.lt_size ho))).trans ?_) (Nat.le_refl _) hxs.symm ((hs.2 x hxs).trans (Heap.get?_update_self _ hx1 rfl)) hn
    exact (Heap.get?_update_ne _ _ _ _ hb).trans (Heap.get?_push_of_some _ ho)
end

section
variable {X : Cx} {pins : List (Addr × Obj)} {σ : L2.St} {H : Hp} {s : Shared} {a C : Addr} {n : Str} {y : V} {u : Value}
/-- self.n = y in the heap: the first field -/
theorem ostX {B : String} {bmB : List Value} {cd : ClassData} {Q : Unit → Shared → Prop} {E : Value → Shared → Prop} {A : Around} (SF : StoreFacts B bmB "object.__setattr__" "object") (hcd : PySem.W.clsIn X.K C = some cd) (hh : cd.hasDict = true) (ho : PySem.W.excOver X.K C bmB = true) (ht : PySem.W.takerIn X.K C n = some none)
    (sa : PySem.W.findIn X.K (.ref C) "__setattr__" = some (some (.builtin "object.__setattr__"))) (I : Inv X pins σ H s) (e : H a = some (exo a C none)) (ry : RelV y u)
    (h : ∀ dx s', H dx = none → dx ≠ a → Inv X pins σ (upd (upd H dx (exd dx [(n, y)])) a (exo a C (some dx))) s' → Q () s') : wpAny (model X.prog X.w) A (setAttr (.ref a) n u) Q E s := by
  obtain ⟨t1, hat⟩ := exo_at I.hok e
  obtain ⟨hp, gs, dr, tk, os⟩ := s
  refine PySem.W.set_plain I.kIn (ox := PySem.HandSPX.excO C t1) (od := none) ⟨hat, rfl, rfl, trivial⟩ sa (osaX SF I.kIn hat hcd hh ho ht fun h2 t2 dx k low ne hx hn => ?_)
  have fr : H dx = none := I.hok.fresh low
  have old : ∀ {b : Addr} {o : Obj}, hp.get? b = some o → b ≠ dx := fun {b o} q z => by
    have := Heap.lt_size q
    rw [z] at this
    exact absurd this (Nat.not_lt.mpr low)
  have no : ∀ {b : Addr}, H b = none → b ≠ a := fun {b} q z => by
    rw [z, e] at q
    cases q
  have to : ∀ {b : Addr} {o : HO}, H b = some o → o ≠ exo a C none → upd (upd H dx (exd dx [(n, y)])) a (exo a C (some dx)) b = some o := fun {b o} q d => by
    rw [upd_ne (at_ne e q (Ne.symm d)), upd_ne (ne_of_none q fr)]
    exact q
  have un : Un X.fs [] H (upd (upd H dx (exd dx [(n, y)])) a (exo a C (some dx))) hp h2 :=
    ⟨fun b o q z _ _ => k b o (no z) q, fun b o q z _ _ => ⟨o.slots, k b o (no z) q⟩, fun b o q z _ => (upd_ne (no z)).trans ((upd_ne (old q)).trans z), fun b o q _ => (Decidable.em (b = a)).elim (fun z => ⟨_, z ▸ hx⟩) fun z => ⟨o, k b o z q⟩,
      fun b xs q => to q (Ne.symm exo_tup), fun b o v q => to q (Ne.symm exo_frz), fun b ps q => ⟨#[], by rw [to q (Ne.symm exo_tbl)]; simp⟩⟩
  refine h dx _ fr ne (I.un (t' := t2) un fun b o q => ?_)
  rcases Decidable.em (b = a) with z | z
  · subst z
    rw [upd_same] at q
    cases q
    exact exo_ok hx
  · rw [upd_ne z] at q
    rcases Decidable.em (b = dx) with z2 | z2
    · subst z2
      rw [upd_same] at q
      cases q
      exact exd_ok hn (relO_put (fs := []) ry fun g => True.intro)
    · rw [upd_ne z2] at q
      refine (I.hok b o q).stay (fun c v hc q2 => k c v ?_ q2) (fun c hc => to hc (Ne.symm exo_own)) (fun c xs hc => to hc (Ne.symm exo_tup))
      rcases hc with hc | hc
      · exact fun z3 => z (hc.symm.trans z3)
      · exact at_ne e hc exo_own
end
/-- what the written part says of an own exception class x whose __init__ keeps its one argument at n -/
structure XvOk (K : PySem.W.Frag) (x n : Str) (C : Addr) : Prop where
  ns : PySem.W.nsIn K mainGlobals x = some (some (.ref C))
  base : ∃ (B newId initId : String) (bmB : List Value), ExcBaseFacts B newId initId bmB ∧ StoreFacts B bmB "object.__setattr__" "object" ∧ PySem.W.excInitIn K C bmB newId = true ∧ PySem.W.excOver K C bmB = true
  dict : PySem.W.hasDictIn K C = true
  tk : PySem.W.takerIn K C n = some none
  sa : PySem.W.findIn K (.ref C) "__setattr__" = some (some (.builtin "object.__setattr__"))
  keep : PySem.W.keepIn K (.ref C) = true
  exC : PySem.W.subIn K (.ref C) (.type "BaseException") = some true
  ty : PySem.W.typeIn K (.ref C) = some (.type "type")
  rd : XfC K C
  fld : PySem.W.findIn K (.ref C) n = some none
  init : ∃ (fI : Addr) (fd : FuncData) (st : Stmt) (q a b : Str) (N : List Str) (p1 p2 p3 p4 : Pos), PySem.W.findIn K (.ref C) "__init__" = some (some (.ref fI)) ∧ PySem.W.typeIn K (.ref fI) = some (.type "function") ∧ Fun K "__init__" q st fI fd ∧ Binds K fd [a, b] [] ∧ FnScope N [a, b] (defScope st) ∧
    defBody st = [.Assign [.Attribute (.Name a p1) n p2] (.Name b p3) p4] ∧ N[0]? = some a ∧ N[1]? = some b ∧ Vis (defScope st) a ∧ Vis (defScope st) b ∧ okNm a = true ∧ okNm b = true
/-- what its __init__ does -/
def spI (C : Addr) (n : Str) : Sp := fun vs H Q _ => ∃ a x, vs = [.ref a, x] ∧ H a = some (exo a C none) ∧ ∀ dx, H dx = none → dx ≠ a → Q .non (upd (upd H dx (exd dx [(n, x)])) a (exo a C (some dx)))

section
variable {X : Cx} {W : WX} {C : Addr} {x n : Str} {e o : Expr} {te to : TE} {p p' pos : Pos}
/-- self.n = e -/
theorem ps_ostX (ok : XvOk X.K x n C) (ho : PE X o to) (he : PE X e te) (hs : swapsWith e (some (.Attribute o n p')) pos.line X.env = pure false) :
    PS X (.Assign [.Attribute o n p'] e pos) (fun De σ H => te σ H fun y H1 => to σ H1 fun z H2 => ∃ a : Addr, z = .ref a ∧ H2 a = some (exo a C none) ∧ ∀ dx, H2 dx = none → dx ≠ a → De.nx σ (upd (upd H2 dx (exd dx [(n, y)])) a (exo a C (some dx)))) := by
  obtain ⟨B, newId, initId, bmB, F, SF, _, over⟩ := ok.base
  have hd := ok.dict
  unfold PySem.W.hasDictIn at hd
  obtain ⟨cd, hcd, hh⟩ := PySem.W.any_some hd
  refine ⟨fun pins s σ H De I h => plainObj_wpAny_Assign_Attribute (thn (he.run pins s σ H _ I h) fun v s1 ⟨y, H1, I1, r1, q1⟩ => thn (ho.run pins s1 σ H1 _ I1 q1) fun u s2 ⟨z, H2, I2, r2, a, ez, ea, q⟩ => ?_) hs⟩
  subst ez
  cases (show u = Value.ref a from r2)
  exact ostX SF hcd hh over ok.tk ok.sa I2 ea r1 fun dx s' k1 k2 J => ⟨σ, _, J, q dx k1 k2⟩
theorem init_fn (ok : XvOk X.K x n C) : ∃ (fI : Addr) (fd : FuncData) (a b : Str), PySem.W.findIn X.K (.ref C) "__init__" = some (some (.ref fI)) ∧ PySem.W.typeIn X.K (.ref fI) = some (.type "function") ∧ Binds X.K fd [a, b] [] ∧ FnOk X.prog X.w X.K X.mg X.base C8.CX0 1 fI fd [a, b] (spI C n) := by
  obtain ⟨fI, fd, st, q, a, b, N, p1, p2, p3, p4, h1, h2, F, hb, S, hst, n0, n1, va, vb, oa, ob⟩ := ok.init
  unfold okNm at oa ob
  rw [Bool.and_eq_true, Bool.not_eq_true', Bool.not_eq_true'] at oa ob
  refine ⟨fI, fd, a, b, h1, h2, hb, F.ok S (fun vs H Q E h => ?_) fun cdv A outer s H vs Q E hr h => ?_⟩
  · obtain ⟨c, y, rfl, _⟩ := h
    rfl
  · obtain ⟨c, y, rfl, hc, hq⟩ := h
    rw [hst]
    refine ⟨_, pss_one (ps_ostX (X := (cxOf C8.CX0 X.prog X.w X.K X.mg X.base N q (defScope st) fI cdv A outer s H E).nox) ok (pe_var n0 va oa.1 oa.2) (pe_var n1 vb ob.1 ob.2) rfl), ?_⟩
    have g0 : (L2.start N [V.ref c, y])[0]? = some (some (V.ref c)) := rfl
    have g1 : (L2.start N [V.ref c, y])[1]? = some (some y) := rfl
    exact ⟨y, g1, V.ref c, g0, c, rfl, hc, hq⟩
/-- C(e) -/
theorem pmk_xv (ok : XvOk X.K x n C) (hr : Room 2 X.A) (hg : Gl X x) (hm : X.mg x = some (.ref C)) (hdb : (x == ("__debug__" : Str)) = false) (he : PE X e te) (hs : starEach [e] X.env = (false, eval e X.env) :: starEach [] X.env) :
    PMk X (.Call (.Name x p) [e] [] pos) (fun σ H Q => te σ H fun y H1 => ∀ dx, H1 dx = none → Q (.ref C) (some dx) (upd H1 dx (.xd [(n, y)]))) := by
  intro pins s σ H Q I h
  obtain ⟨B, newId, initId, bmB, FB, SF, init, _⟩ := ok.base
  obtain ⟨fI, fd, pa, pb, iC, tI, hb, F1⟩ := init_fn ok
  refine wpAny_Call_Name_kw (ld_glob I hg hm ?_ hdb)
  have ha := pa_cons (X := X) he pa_nil hs
  refine PySem.W.callWith_K (h₀ := X.base) I.ok.mod.kin ok.keep (thn (ha.run pos pins s σ H (fun vs H1 => match vs with | [y] => ∀ dx, H1 dx = none → Q (.ref C) (some dx) (upd H1 dx (.xd [(n, y)])) | _ => False) I h) fun us s1 ⟨vs, H1, I1, r1, hq⟩ => ⟨I1.kIn, ?_⟩) hs rfl
  cases r1 with
  | nil => exact hq.elim
  | @cons y u ys us ry r2 =>
    cases r2 with
    | cons _ _ => exact hq.elim
    | nil =>
      show wpAny _ _ (call (.ref C) [u]) _ _ _
      obtain ⟨hp, g, dr, tk, os⟩ := s1
      obtain ⟨nm, N, qn, bs, bm, hdct, sn, sub, ab, col, dd, k0, k1, k2, k3, k5, hC, hT⟩ := PySem.W.excInit_of I1.kIn init
      have big : hp.objs.size ≤ hp.objs.size + 1 := Nat.le_succ _
      have free : H1 (hp.objs.size + 1) = none := I1.hok.fresh big
      have old : ∀ b o, hp.get? b = some o → ((hp.push (PySem.W.kdv_tup [u])).push (PySem.HandSPX.excO C hp.objs.size)).get? b = some o := fun b o z => Heap.get?_push_of_some _ (Heap.get?_push_of_some _ z)
      have new : ((hp.push (PySem.W.kdv_tup [u])).push (PySem.HandSPX.excO C hp.objs.size)).get? (hp.objs.size + 1) = some (PySem.HandSPX.excO C hp.objs.size) := by heap_get
      have J : Inv X pins σ (upd H1 (hp.objs.size + 1) (exo (hp.objs.size + 1) C none)) ⟨(hp.push (PySem.W.kdv_tup [u])).push (PySem.HandSPX.excO C hp.objs.size), g, dr, tk, os⟩ :=
        I1.laid (t' := tk) (a := hp.objs.size + 1) (o := exo (hp.objs.size + 1) C none) (h' := (hp.push (PySem.W.kdv_tup [u])).push (PySem.HandSPX.excO C hp.objs.size)) old big (exo_ok new)
      have hsp : spI C n [V.ref (hp.objs.size + 1), y] (upd H1 (hp.objs.size + 1) (exo (hp.objs.size + 1) C none)) (fun v H2 => v = .non ∧ ∃ dx, H1 dx = none ∧ dx ≠ hp.objs.size + 1 ∧ H2 = upd (upd (upd H1 (hp.objs.size + 1) (exo (hp.objs.size + 1) C none)) dx (exd dx [(n, y)])) (hp.objs.size + 1) (exo (hp.objs.size + 1) C (some dx))) (fun _ _ _ => False) :=
        ⟨_, _, rfl, upd_same, fun dx h1 h2 => ⟨rfl, dx, by rw [upd_ne h2] at h1; exact h1, h2, rfl⟩⟩
      have run := F1.run _ X.stack _ _ ⟨[Value.ref (hp.objs.size + 1), u], []⟩ [Value.ref (hp.objs.size + 1), u] _ _ _ ((hr.make C [u] []).mono (Nat.le_refl _)) (J.env0.make C [u] []) (by
        have q := hb _ [Value.ref (hp.objs.size + 1), u] J.kIn rfl
        exact q) (.cons (show RelV (.ref (hp.objs.size + 1)) (Value.ref (hp.objs.size + 1)) from rfl) (.cons ry .nil)) hsp
      refine wpAny_call (PySem.HandSPX.call_own FB hT hC (PySem.W.looks_findIn I1.kIn iC) (fun self => PySem.W.bind_fn I1.kIn self tI) (by rw [sizeLine_eq]; show 1 ≤ _; omega) (codeAny_mono run fun r s2 hq2 => ?_))
      cases r with
      | error er => exact hq2.elim
      | ok fl =>
        cases fl with
        | ret v =>
          obtain ⟨v', H2, os2, bare2, un2, hok2, rv, ev, dx, d1, d2, e2⟩ := hq2
          subst ev e2
          obtain ⟨h2, g2, dr2, t2, os'⟩ := s2
          have hda : dx ≠ hp.objs.size + 1 := d2
          have e3 : upd (del (upd (upd (upd H1 (hp.objs.size + 1) (exo (hp.objs.size + 1) C none)) dx (exd dx [(n, y)])) (hp.objs.size + 1) (exo (hp.objs.size + 1) C (some dx))) (hp.objs.size + 1)) dx (.xd [(n, y)]) = upd H1 dx (.xd [(n, y)]) := by
            funext b
            by_cases z : b = dx
            · rw [z, upd_same, upd_same]
            · rw [upd_ne z, upd_ne z]
              by_cases z2 : b = hp.objs.size + 1
              · rw [z2, del_same, free]
              · rw [del_ne z2, upd_ne z2, upd_ne z, upd_ne z2]
          refine ⟨rv, mk_end (raises_own ok.exC ok.ty) I1 big old un2 hok2 os2 bare2 upd_same (by rw [upd_ne hda, upd_same]) d1 ?_⟩
          rw [e3]
          exact hq dx d1
        | next => exact hq2.elim
        | brk => exact hq2.elim
        | cont => exact hq2.elim
/-- raise C(e) -/
theorem s_raisev [TabC] {cl : Cl} {me : E} {p3 : Pos} (hc : X.calm = true) (tk : Takes X W) (ok : XvOk X.K x n C) (hr : cl.hi = true → Room 2 X.A) (hg : Gl X x) (hm : X.mg x = some (.ref C)) (hdb : (x == ("__debug__" : Str)) = false) (he : PE X e (tE X.K W (evE cl me))) (hs : starEach [e] X.env = (false, eval e X.env) :: starEach [] X.env) :
    PS X (.Raise (some (.Call (.Name x p) [e] [] p3)) none pos) (tS X.K W (exS cl (.raisev x n me))) := by
  cases hh : cl.hi with
  | false =>
    refine ⟨fun pins s σ H De I h => ?_⟩
    obtain ⟨L, φ, M, lr, mh, q⟩ := h
    replace q := show PRS X.K W φ H (if cl.hi then (evE cl me L M).then L fun d M1 => .exc x (.tup [.str n, d]) L M1 else .bad) De from q
    rw [hh] at q
    exact False.elim q
  | true =>
    refine imp_PS (ps_raise hc tk (pmk_xv ok (hr hh) hg hm hdb he hs)) fun De σ H h => ?_
    obtain ⟨L, φ, M, lr, mh, q⟩ := h
    replace q := show PRS X.K W φ H (if cl.hi then (evE cl me L M).then L fun d M1 => .exc x (.tup [.str n, d]) L M1 else .bad) De from q
    rw [hh, if_pos rfl] at q
    refine tE_use lr mh (PRS.thn lr q) fun d M1 φ1 H1 v e1 m1 g1 r1 dx hd => ?_
    have ex := Ext.new (φ := φ1) (o := .xd [(n, v)]) hd
    exact (show PRS X.K W φ1 H1 (.exc x (.tup [.str n, d]) L M1) De from g1) φ1 _ σ (.ref C) (some dx) ex (m1.new hd) ((lr.ext e1).ext ex) ⟨C, ok.ns, rfl, .inr ⟨n, d, dx, v, rfl, rfl, upd_same, m1.notin hd, Rep.ext ex _ _ r1⟩⟩
end
end MP
/-! MiniPy 12b: a def that calls what it got, its exceptions told. -/
namespace MP
open PySem PySem.Spec PyProof.Rows L2
abbrev SuiteR := Addr → Value → Option Addr → TS
def stI : Option Nat → Addr → L2.St → L2.St
  | none, _, σ => σ
  | some i, a, σ => σ.set i (some (.ref a))
def unI : Option Nat → L2.St → L2.St
  | none, σ => σ
  | some i, σ => σ.set i none
def deI (oi : Option Nat) (De : Ends) : Ends := { nx := fun σ H => De.nx (unI oi σ) H, rt := De.rt, bk := fun σ H => De.bk (unI oi σ) H, ct := fun σ H => De.ct (unI oi σ) H }
/-- the clauses up to some one; those behind it are never asked -/
def wT (K : PySem.W.Frag) (De : Ends) : List (Value × Option Nat × SuiteR) → WX
  | [] => fun _ _ _ _ => False
  | (c, oi, ts) :: r => fun cls d σ H => ∃ b, PySem.W.exmOne K cls c = some b ∧ (b = true → ∀ a, H a = none → ts a cls d (deI oi De) (stI oi a σ) H) ∧ (b = false → wT K De r cls d σ H)
inductive HdT (X : Cx) : List ExceptHandler → List (Value × Option Nat × SuiteR) → Prop
  | rest {hds : List ExceptHandler} : HdT X hds []
  | cons {x : Str} {c : Value} {ts : SuiteR} {b₀ : Stmt} {bs : List Stmt} {np hp : Pos} {hds : List ExceptHandler} {l : List (Value × Option Nat × SuiteR)} (hc : Names X x c)
      (hsu : ∀ (a : Addr) (oe : Obj) (cls : Value) (d : Option Addr) (pn : List (Addr × Obj)), Zc cls d oe → (∃ vs, oe.data = .fields vs) → PSs (X.suite a ((a, oe) :: pn)) (b₀ :: bs) (ts a cls d)) (r : HdT X hds l) :
      HdT X (.ExceptHandler (some (.Name x np)) none (b₀ :: bs) hp :: hds) ((c, none, ts) :: l)
  | consN {x n : Str} {i : Nat} {c : Value} {ts : SuiteR} {b₀ : Stmt} {bs : List Stmt} {np hp : Pos} {hds : List ExceptHandler} {l : List (Value × Option Nat × SuiteR)} (hc : Names X x c) (hN : X.N.Nodup) (hi : X.N[i]? = some n) (hln : X.env.kindOf n = some .local)
      (hsu : ∀ (a : Addr) (oe : Obj) (cls : Value) (d : Option Addr) (pn : List (Addr × Obj)), Zc cls d oe → (∃ vs, oe.data = .fields vs) → PSs (X.suite a ((a, oe) :: pn)) (b₀ :: bs) (ts a cls d)) (r : HdT X hds l) :
      HdT X (.ExceptHandler (some (.Name x np)) (some n) (b₀ :: bs) hp :: hds) ((c, some i, ts) :: l)
section
variable {X : Cx} {body : List Stmt} {h₀ : ExceptHandler} {hds : List ExceptHandler} {l : List (Value × Option Nat × SuiteR)} {pos : Pos} {tb : WX → TS}
theorem ps_try_T (hs : X.stack = X.env :: X.outer) (hf : X.env.frame = some X.env.locals)
    (hb : ∀ (W : WX) (pn : List (Addr × Obj)) (xe : Value → Shared → Prop), Takes (X.tr pn xe) W → PassesOwn (model X.prog X.w) X.A X.env xe → PSs (X.tr pn xe) body (tb W))
    (hh : HdT X (h₀ :: hds) l) : PS X (.Try body (h₀ :: hds) [] [] pos) (fun De σ H => tb (wT X.K De l) De σ H) := by
  refine ⟨fun pins s σ H De I h => ?_⟩
  have ok := I.ok
  have hfr : X.A.frames = some (X.env :: X.outer) := by
    rw [ok.frames, hs]
  refine wpAny_Try_except ?_
  have run := hb (wT X.K De l) (X.pn ++ pins) (fun e s₁ => wpAny (model X.prog X.w) X.A (noteFrame e X.env) (fun _ s₂ => wpAny (model X.prog X.w) X.A (setFlight e none) (fun _ s₃ => wpAny (model X.prog X.w) X.A (handleBy e X.env (h₀ :: hds)) (SP X pins De) X.xe s₃) X.xe s₂) X.xe s₁)
  refine wpAny_mono ((run (fun u s' xx => ?_) PassesOwn.looking).run [] s σ H De (I.toTry _) h) (fun f s1 q => ?_) (fun e s1 he => he)
  · obtain ⟨a, B, sI, pins', σ', H', cls, d, rfl, J', nb, up, sky, na, os, ag, w⟩ := xx
    have J : Inv X pins σ' H' sI := J'.ofTry ok
    have sk : Sky B (X.env :: X.outer) a (Zc cls d) X.env.locals s'.heap := by
      rw [← hs]
      exact sky
    show wpAny (model X.prog X.w) X.A (noteFrame (.ref a) X.env) _ _ _
    refine Sky.land Zc.steady hfr hf sk fun h3 fl3 up3 => ?_
    have J3 : Inv X pins σ' H' { s' with heap := h3 } := J.landed nb fl3.1 (up.trans up3) os ag
    obtain ⟨oe3, vs3, he3, hz3, hd3⟩ := fl3.there
    have nfr : a ∉ frs (X.env :: X.outer) := fun hm => by
      obtain ⟨_, o', e', hnf⟩ := fl3.2.2.1.mem hm
      rw [he3] at e'
      cases e'
      exact hnf _ hd3
    have nL : a ≠ X.env.locals := fun z => nfr (List.mem_filterMap.mpr ⟨X.env, List.mem_cons_self, by rw [hf, z]⟩)
    have nF : a ∉ X.fs := fun hm => by
      obtain ⟨e, he, q⟩ := List.mem_filterMap.mp hm
      exact nfr (List.mem_filterMap.mpr ⟨e, List.mem_cons_of_mem _ he, q⟩)
    have S3 := J3.suite he3 hd3 na nL nF
    have go : ∀ {hds' : List ExceptHandler} {l' : List (Value × Option Nat × SuiteR)}, HdT X hds' l' → wT X.K De l' cls d σ' H' → wpAny (model X.prog X.w) X.A (handleBy (.ref a) X.env hds') (SP X pins De) X.xe { s' with heap := h3 } := by
      intro hds' l' hk
      induction hk with
      | rest => exact fun z => False.elim z
      | @cons x c ts b₀ bs np hp hds2 l2 hc hsu r ih =>
        intro w
        obtain ⟨b, hb1, hyes, hno⟩ := w
        refine wpAny_handleBy_cons (codeAny_handlers_test ?_) (fun q => by cases q)
        have LT : PySem.W.Looks (model X.prog X.w) h3 (typeOf (.ref a)) cls := fun A Q E s k q => wpAny_typeOf_ref (k _ _ he3) (by
          rw [hz3.1]
          exact q)
        have LM := PySem.W.exm_one (M := model X.prog X.w) (J3.kIn) LT hb1
        have look : ∀ {Q E : Value → Shared → Prop}, Q c { s' with heap := h3 } → wpAny (model X.prog X.w) (X.A.mark (some (.ref a))) (eval (.Name x np) X.env) Q E { s' with heap := h3 } := fun {Q E} q => by
          obtain ⟨hg, hdbg, hm | ⟨hm, hv, hnn⟩⟩ := hc
          · exact ld_glob (X := X.suite a ((a, oe3) :: (X.pn ++ pins))) S3 hg hm q hdbg
          · exact ld_blt (X := X.suite a ((a, oe3) :: (X.pn ++ pins))) S3 hg hm hv q hnn hdbg
        refine look (LM.here ?_)
        cases b with
        | false =>
          show wpAny _ X.A (handleBy (.ref a) X.env hds2) _ _ _
          exact ih (hno rfl)
        | true =>
          refine codeAny_handlers_suite (HandSPX.lands_againZ fl3 fun h4 fl4 up4 => ?_)
          have J4 : Inv X pins σ' H' { s' with heap := h4 } := J.landed nb fl4.1 ((up.trans up3).trans up4) os ag
          obtain ⟨oe4, vs4, he4, hz4, hd4⟩ := fl4.there
          have S4 := J4.suite he4 hd4 na nL nF
          refine wpAny_mono ((hsu a oe4 cls d (X.pn ++ pins) hz4 ⟨_, hd4⟩).run [] _ _ H' _ S4 (hyes rfl a na)) (fun f s6 q6 => ?_) (fun _ _ z => False.elim z)
          cases f with
          | ret u =>
            obtain ⟨v6, σ6, H6, S6, r6, z6⟩ := q6
            exact ⟨_, _, _, S6.unsuite ok, r6, z6⟩
          | next =>
            obtain ⟨σ6, H6, S6, z6⟩ := q6
            exact ⟨_, _, S6.unsuite ok, z6⟩
          | brk =>
            obtain ⟨σ6, H6, S6, z6⟩ := q6
            exact ⟨_, _, S6.unsuite ok, z6⟩
          | cont =>
            obtain ⟨σ6, H6, S6, z6⟩ := q6
            exact ⟨_, _, S6.unsuite ok, z6⟩
      | @consN x n i c ts b₀ bs np hp hds2 l2 hc hN hi hln hsu r ih =>
        intro w
        obtain ⟨b, hb1, hyes, hno⟩ := w
        refine wpAny_handleBy_cons (codeAny_handlers_test ?_) (fun q => by cases q)
        have LT : PySem.W.Looks (model X.prog X.w) h3 (typeOf (.ref a)) cls := fun A Q E s k q => wpAny_typeOf_ref (k _ _ he3) (by
          rw [hz3.1]
          exact q)
        have LM := PySem.W.exm_one (M := model X.prog X.w) (J3.kIn) LT hb1
        have look : ∀ {Q E : Value → Shared → Prop}, Q c { s' with heap := h3 } → wpAny (model X.prog X.w) (X.A.mark (some (.ref a))) (eval (.Name x np) X.env) Q E { s' with heap := h3 } := fun {Q E} q => by
          obtain ⟨hg, hdbg, hm | ⟨hm, hv, hnn⟩⟩ := hc
          · exact ld_glob (X := X.suite a ((a, oe3) :: (X.pn ++ pins))) S3 hg hm q hdbg
          · exact ld_blt (X := X.suite a ((a, oe3) :: (X.pn ++ pins))) S3 hg hm hv q hnn hdbg
        refine look (LM.here ?_)
        cases b with
        | false =>
          show wpAny _ X.A (handleBy (.ref a) X.env hds2) _ _ _
          exact ih (hno rfl)
        | true =>
          refine codeAny_handlers_suite_as (HandSPX.lands_againZ fl3 fun h4 fl4 up4 => ?_)
          have J4 : Inv X pins σ' H' { s' with heap := h4 } := J.landed nb fl4.1 ((up.trans up3).trans up4) os ag
          obtain ⟨oe4, vs4, he4, hz4, hd4⟩ := fl4.there
          have S4 := J4.suite he4 hd4 na nL nF
          refine store_ok (X := X.suite a ((a, oe4) :: (X.pn ++ pins))) (v := .ref a) S4 hN hi (.inl hln) rfl (fun t5 T5 => ?_) (.inr hln)
          refine wpAny_mono ((hsu a oe4 cls d (X.pn ++ pins) hz4 ⟨_, hd4⟩).run [] t5 _ H' _ T5 (hyes rfl a na)) (fun f t6 q6 => ?_) (fun _ _ z => False.elim z)
          have leave : ∀ {ρ : L2.St} {G : Hp} {Z : Shared → Prop}, Inv (X.suite a ((a, oe4) :: (X.pn ++ pins))) [] ρ G t6 → (∀ t7, Inv X pins (ρ.set i none) G t7 → Z t7) →
              wpAny (model X.prog X.w) X.A (do bindName X.env n .none; unbindBehindTheSuite X.env n hp) (fun _ t7 => Z t7) X.xe t6 := fun {ρ G Z} u z => gone_ok (u.unsuite ok) hN hi hln z
          cases f with
          | ret u =>
            obtain ⟨v6, ρ6, G6, U6, r6, z6⟩ := q6
            exact leave U6 fun t7 U7 => ⟨_, _, _, U7, r6, z6⟩
          | next =>
            obtain ⟨ρ6, G6, U6, z6⟩ := q6
            exact leave U6 fun t7 U7 => ⟨_, _, U7, z6⟩
          | brk =>
            obtain ⟨ρ6, G6, U6, z6⟩ := q6
            exact leave U6 fun t7 U7 => ⟨_, _, U7, z6⟩
          | cont =>
            obtain ⟨ρ6, G6, U6, z6⟩ := q6
            exact leave U6 fun t7 U7 => ⟨_, _, U7, z6⟩
    exact go hh w
  · cases f with
    | ret u =>
      obtain ⟨v, σ', H', J', r, z⟩ := q
      exact ⟨v, σ', H', J'.ofTry ok, r, z⟩
    | next =>
      obtain ⟨σ', H', J', z⟩ := q
      exact wpAny_execs_nil ⟨σ', H', J'.ofTry ok, z⟩
    | brk =>
      obtain ⟨σ', H', J', z⟩ := q
      exact ⟨σ', H', J'.ofTry ok, z⟩
    | cont =>
      obtain ⟨σ', H', J', z⟩ := q
      exact ⟨σ', H', J'.ofTry ok, z⟩
end
end MP
/-! MiniPy 12c: try: return (tag, call()); except C: return (texts); .. -/
namespace MP
open PySem PySem.Spec PyProof.Rows L2
variable [TabC]
/-- written texts as an argument list -/
def strEs : List Expr → List Str → Prop
  | [], [] => True
  | .Constant (.str x) _ _ :: es, y :: ys => x = y ∧ strEs es ys
  | _, _ => False
theorem pa_strs {X : Cx} : ∀ {es : List Expr} {rs : List Str}, strEs es rs → PA X es (fun σ H Q => Q (rs.map V.str) H)
  | [], [], _ => imp_PA pa_nil fun σ H Q h => h
  | [], _ :: _, h => h.elim
  | e :: es, rs, h => by
    cases e <;> first | (cases rs <;> exact h.elim) | skip
    rename_i k j p
    cases k <;> first | (cases rs <;> exact h.elim) | skip
    rename_i x
    cases rs with
    | nil => exact h.elim
    | cons y ys =>
      obtain ⟨rfl, h2⟩ := h
      exact imp_PA (pa_cons pe_str (pa_strs h2)) fun σ H Q h => h
/-- a clause's answer as an argument list; nm: the name of the exception -/
def rtEs (nm : Option Str) : List Expr → List RtP → Prop
  | [], [] => True
  | .Constant (.str x) _ _ :: es, .txt y :: ys => x = y ∧ rtEs nm es ys
  | .Attribute (.Name z _) n _ :: es, .fld m :: ys => nm = some z ∧ n = m ∧ rtEs nm es ys
  | _, _ => False
/-- the parts, by the exception that was caught -/
def tells (K : PySem.W.Frag) (cls : Value) (dd : Option Addr) (H : Hp) : List RtP → List V → Prop
  | [], [] => True
  | .txt x :: ps, v :: vs => v = .str x ∧ tells K cls dd H ps vs
  | .fld n :: ps, v :: vs => (∃ (C dx : Addr) (fs : List (Str × V)), cls = .ref C ∧ XfC K C ∧ PySem.W.findIn K (.ref C) n = some none ∧ dd = some dx ∧ H dx = some (.xd fs) ∧ fs.lookup n = some v) ∧ tells K cls dd H ps vs
  | _, _ => False
theorem tells_len {K : PySem.W.Frag} {cls : Value} {dd : Option Addr} {H : Hp} : ∀ {ps : List RtP} {vs : List V}, tells K cls dd H ps vs → vs.length = ps.length
  | [], [], _ => rfl
  | .txt _ :: ps, v :: vs, h => by simp [tells_len h.2]
  | .fld _ :: ps, v :: vs, h => by simp [tells_len h.2]
  | [], _ :: _, h => by cases h
  | .txt _ :: _, [], h => by cases h
  | .fld _ :: _, [], h => by cases h
section
variable {X : Cx} {a : Addr} {oe : Obj} {cls : Value} {dd : Option Addr} {pn : List (Addr × Obj)} {nm : Option Str} {i : Nat}
theorem pa_rt (hz : Zc cls dd oe) (hf : ∃ vs, oe.data = .fields vs) (hi : ∀ z, nm = some z → X.N[i]? = some z ∧ Vis X.env.scope z ∧ okNm z = true) : ∀ {es : List Expr} {ps : List RtP}, rtEs nm es ps →
    PA (X.suite a ((a, oe) :: pn)) es (fun σ H Q => (nm ≠ none → σ[i]? = some (some (.ref a))) ∧ ∃ vs, tells X.K cls dd H ps vs ∧ Q vs H)
  | [], [], _ => imp_PA pa_nil fun σ H Q h => by
    obtain ⟨_, vs, h1, h2⟩ := h
    cases vs with
    | nil => exact h2
    | cons _ _ => cases h1
  | [], .txt _ :: _, h => h.elim
  | [], .fld _ :: _, h => h.elim
  | e :: es, ps, h => by
    cases e <;> first | (cases ps <;> exact h.elim) | skip
    · rename_i k j p
      cases k <;> first | (cases ps <;> exact h.elim) | skip
      rename_i x
      cases ps with
      | nil => exact h.elim
      | cons y ys =>
        cases y with
        | fld _ => exact h.elim
        | txt y =>
          obtain ⟨rfl, h2⟩ := h
          refine imp_PA (pa_cons pe_str (pa_rt hz hf hi h2)) fun σ H Q h => ?_
          obtain ⟨h0, vs, h1, h3⟩ := h
          cases vs with
          | nil => cases h1
          | cons v vs =>
            obtain ⟨rfl, h1⟩ := h1
            exact ⟨h0, vs, h1, h3⟩
    · rename_i b n pos
      cases b <;> first | (cases ps <;> exact h.elim) | skip
      rename_i z p
      cases ps with
      | nil => exact h.elim
      | cons y ys =>
        cases y with
        | txt _ => exact h.elim
        | fld m =>
          obtain ⟨hn, rfl, h2⟩ := h
          obtain ⟨i1, i2, i3⟩ := hi z hn
          unfold okNm at i3
          rw [Bool.and_eq_true, Bool.not_eq_true', Bool.not_eq_true'] at i3
          have hp : PE (X.suite a ((a, oe) :: pn)) (.Attribute (.Name z p) n pos) (fun σ H Q => ∃ C, XfC X.K C ∧ PySem.W.findIn X.K (.ref C) n = some none ∧ tXf a cls dd C n (tVar i) σ H Q) :=
            ⟨fun pins s σ H Q I ⟨C, T, hno, h⟩ => (pe_xf T hno hz hf (pe_var (X := X.suite a ((a, oe) :: pn)) i1 i2 i3.1 i3.2)).run pins s σ H Q I h⟩
          refine imp_PA (pa_cons hp (pa_rt hz hf hi h2)) fun σ H Q h => ?_
          obtain ⟨h0, vs, h1, h3⟩ := h
          cases vs with
          | nil => cases h1
          | cons v vs =>
            obtain ⟨⟨C, dx, fs, c1, c2, c3, c4, c5, c6⟩, h1⟩ := h1
            exact ⟨C, c2, c3, .ref a, h0 (by rw [hn]; exact Option.some_ne_none _), rfl, c1, dx, fs, v, c4, c5, c6, h0, vs, h1, h3⟩
end
abbrev MetL := List (Value × Option Nat × List RtP)
/-- what the clauses tell -/
def metW (K : PySem.W.Frag) (Q : VK) : MetL → Value → Option Addr → Hp → Prop
  | [], _, _, _ => False
  | (c, _, rs) :: r, cls, dd, H => ∃ b, PySem.W.exmOne K cls c = some b ∧ (b = true → ∃ vs, tells K cls dd H rs vs ∧ ∀ t, H t = none → Q (.ref t) (upd H t (.tup vs))) ∧ (b = false → metW K Q r cls dd H)
def TTmet (K : PySem.W.Frag) (tag : Str) (hs : MetL) : (XK → Hp → VK → Prop) → Hp → VK → Prop := fun tl H Q =>
  tl (fun cls dd H' => metW K Q hs cls dd H') H fun v H1 => [V.str tag, v].length ≤ sizeLine ∧ ∀ t, H1 t = none → Q (.ref t) (upd H1 t (.tup [.str tag, v]))
inductive HdM (mg : Str → Option Value) (sg : Scope) (Ng : List Str) : List ExceptHandler → MetL → Prop
  | rest {hds : List ExceptHandler} : HdM mg sg Ng hds []
  | cons {x : Str} {C : Addr} {es : List Expr} {rs : List RtP} {kt : Nat} {np pt pr hp : Pos} {hds : List ExceptHandler} {l : MetL} (hg : sg.names.lookup x = some .globalImplicit) (hm : mg x = some (.ref C)) (hd : (x == ("__debug__" : Str)) = false) (he : rtEs none es rs) (hl : rs.length ≤ 1000) (r : HdM mg sg Ng hds l) :
      HdM mg sg Ng (.ExceptHandler (some (.Name x np)) none [.Return (some (.Tuple es kt pt)) pr] hp :: hds) ((.ref C, none, rs) :: l)
  | consN {x n : Str} {i : Nat} {C : Addr} {es : List Expr} {rs : List RtP} {kt : Nat} {np pt pr hp : Pos} {hds : List ExceptHandler} {l : MetL} (hg : sg.names.lookup x = some .globalImplicit) (hm : mg x = some (.ref C)) (hd : (x == ("__debug__" : Str)) = false) (hi : Ng[i]? = some n) (hn : sg.names.lookup n = some .local) (ho : okNm n = true) (he : rtEs (some n) es rs) (hl : rs.length ≤ 1000) (r : HdM mg sg Ng hds l) :
      HdM mg sg Ng (.ExceptHandler (some (.Name x np)) (some n) [.Return (some (.Tuple es kt pt)) pr] hp :: hds) ((.ref C, some i, rs) :: l)
abbrev suiteM (K : PySem.W.Frag) (oi : Option Nat) (rs : List RtP) : SuiteR := fun a cls dd De σ H => (∃ σ0, σ = stI oi a σ0) ∧ ∃ vs, tells K cls dd H rs vs ∧ ∀ t, H t = none → De.rt (.ref t) (upd H t (.tup vs))
theorem hdT_of {X : Cx} (hN : X.N.Nodup) {hds : List ExceptHandler} {hs : MetL} (h : HdM X.mg X.env.scope X.N hds hs) : HdT X hds (hs.map fun p => (p.1, p.2.1, suiteM X.K p.2.1 p.2.2)) := by
  induction h with
  | rest => exact .rest
  | @cons x C es rs kt np pt pr hp hds l hg hm hd he hl r ih =>
    refine .cons ⟨hg, hd, .inl hm⟩ (fun a oe cls d pn hz hf => ?_) ih
    refine imp_PSs (pss_one (ps_ret (pe_tup (pa_rt (i := 0) hz hf (fun z q => by cases q) he)))) fun De σ H q => ?_
    obtain ⟨_, vs, h1, h2⟩ := q
    refine ⟨fun z => absurd rfl z, vs, h1, ?_, h2⟩
    rw [tells_len h1]
    exact Nat.le_trans hl (by decide)
  | @consN x n i C es rs kt np pt pr hp hds l hg hm hd hi hn ho he hl r ih =>
    refine .consN ⟨hg, hd, .inl hm⟩ hN hi hn (fun a oe cls d pn hz hf => ?_) ih
    have base := pss_one (ps_ret (pos := pr) (pe_tup (x1 := kt) (pos := pt) (pa_rt (i := i) (pn := pn) (a := a) hz hf (fun z q => by
      cases q
      exact ⟨hi, .inl hn, ho⟩) he)))
    refine ⟨fun pins s σ H De I q => base.run pins s σ H De I ?_⟩
    obtain ⟨⟨σ0, e⟩, vs, h1, h2⟩ := q
    refine ⟨fun _ => ?_, vs, h1, ?_, h2⟩
    · have hlen := I.len
      rw [e] at hlen ⊢
      show (σ0.set i (some (.ref a)))[i]? = _
      have hlt : i < σ0.length := by
        have h3 : (σ0.set i (some (V.ref a))).length = X.N.length := hlen
        rw [List.length_set] at h3
        rw [h3]
        exact (List.getElem?_eq_some_iff.mp hi).1
      rw [List.getElem?_set_self hlt]
    · rw [tells_len h1]
      exact Nat.le_trans hl (by decide)
theorem wT_of {K : PySem.W.Frag} {De : Ends} {σ : L2.St} {H : Hp} {cls : Value} {d : Option Addr} : ∀ {hs : MetL}, metW K De.rt hs cls d H → wT K De (hs.map fun p => (p.1, p.2.1, suiteM K p.2.1 p.2.2)) cls d σ H
  | [], h => h
  | (c, oi, rs) :: r, h => by
    obtain ⟨b, h1, h2, h3⟩ := h
    exact ⟨b, h1, fun hb a _ => ⟨⟨σ, rfl⟩, h2 hb⟩, fun hb => wT_of (h3 hb)⟩
theorem met_gives {X : Cx} {Ng : List Str} {x a q tag : Str} {sg : Scope} {g : Addr} {cdg : Value} {j kt : Nat} {p1 p2 pc pt pr pos : Pos} {h₀ : ExceptHandler} {hds : List ExceptHandler} {hs : MetL} (hN : Ng.Nodup) (hm : HdM X.mg sg Ng (h₀ :: hds) hs) (h0 : ∀ f : Addr, (L2.start Ng [V.ref f])[0]? = some (some (V.ref f))) :
    LamX.GivesTo X Ng x sg g cdg [.Try [.Return (some (.Tuple [.Constant (.str tag) j pc, .Call (.Name a p1) [] [] p2] kt pt)) pr] (h₀ :: hds) [] [] pos] a q (TTmet X.K tag hs) := by
  intro f c' s H Q tl act hc h
  refine ⟨_, pss_one (ps_try_T (X := (cxOf C8.CX0 X.prog X.w X.K X.mg X.base Ng x sg g cdg X.A X.stack s H C8.E0).nox)
      (tb := fun W De σ H => ∃ Ech : XK, (∀ cls d σ' H', Ech cls d H' → W cls d σ' H') ∧ σ[0]? = some (some (.ref f)) ∧ H c' = some (LamX.CodeO c' q) ∧ tl Ech H fun v H1 => [V.str tag, v].length ≤ sizeLine ∧ ∀ t, H1 t = none → De.rt (.ref t) (upd H1 t (.tup [.str tag, v])))
      rfl rfl (fun W pn xe tk _ => ?_) (hdT_of hN hm)), ?_⟩
  · refine ⟨fun pins s' σ H' De I h' => ?_⟩
    obtain ⟨Ech, hW, h1, h2, h3⟩ := h'
    have hp := act W pn xe Ech p1 p2 tk hW
    have hq := pss_one (ps_ret (pos := pr) (pe_tup (x1 := kt) (pos := pt) (pa_cons (pe_str (x := tag) (pos := pc) (j := j)) (pa_cons hp pa_nil))))
    refine hq.run pins s' σ H' De I ?_
    exact ⟨h1, h2, h3⟩
  · exact ⟨fun cls d H' => metW X.K Q hs cls d H', fun cls d σ' H' z => wT_of z, h0 f, hc, h⟩
inductive HsOk (K : PySem.W.Frag) : List HdR → MetL → Prop
  | nil : HsOk K [] []
  | cons {h : HdR} {cv : Value} {oi : Option Nat} {hs : List HdR} {l : MetL} (hx : ∀ c b C, h.xm.lookup c = some b → PySem.W.nsIn K mainGlobals c = some (some (.ref C)) → PySem.W.exmOne K (.ref C) cv = some b) (hf : ∀ c C n, h.xm.lookup c = some true → PySem.W.nsIn K mainGlobals c = some (some (.ref C)) → RtP.fld n ∈ h.ret → XfC K C ∧ PySem.W.findIn K (.ref C) n = some none) (r : HsOk K hs l) : HsOk K (h :: hs) ((cv, oi, h.ret) :: l)
theorem rt_tells {K : PySem.W.Frag} {φ : Ph} {H : Hp} {e : D} {c : Str} {C : Addr} {dd : Option Addr} (hn : PySem.W.nsIn K mainGlobals c = some (some (.ref C))) (xr : XRep K φ H c e (.ref C) dd) : ∀ {rs : List RtP} {ds : List D}, (∀ n, RtP.fld n ∈ rs → XfC K C ∧ PySem.W.findIn K (.ref C) n = some none) → rtDs e rs = some ds → ∃ vs, tells K (.ref C) dd H rs vs ∧ Reps K φ H ds vs
  | [], ds, _, h => by
    cases h
    exact ⟨[], True.intro, .nil⟩
  | p :: rs, ds, hf, h => by
    unfold rtDs at h
    rw [Option.bind_eq_some_iff] at h
    obtain ⟨d, h1, h⟩ := h
    rw [Option.map_eq_some_iff] at h
    obtain ⟨ds', h2, rfl⟩ := h
    obtain ⟨vs, t1, t2⟩ := rt_tells hn xr (fun n hm => hf n (List.mem_cons_of_mem _ hm)) h2
    cases p with
    | txt x =>
      cases h1
      exact ⟨.str x :: vs, ⟨rfl, t1⟩, .cons (.str x) t2⟩
    | fld n =>
      obtain ⟨f1, f2⟩ := hf n List.mem_cons_self
      obtain ⟨C', c1, c2, c3 | ⟨m, d', dx, v, e1, e2, e3, e4, e5⟩⟩ := xr
      · rw [c3.1] at h1
        cases h1
      · subst e1
        unfold rtD at h1
        simp only at h1
        split at h1
        · rename_i hm
          cases h1
          subst hm
          refine ⟨v :: vs, ⟨⟨C, dx, _, rfl, f1, f2, e2, e3, by simp⟩, t1⟩, .cons e5 t2⟩
        · cases h1
theorem metW_of {K : PySem.W.Frag} {φ : Ph} {H : Hp} {M : List D} {Q : VK} {e : D} {c : Str} {C : Addr} {dd : Option Addr} (hn : PySem.W.nsIn K mainGlobals c = some (some (.ref C))) (xr : XRep K φ H c e (.ref C) dd) (m : MH K φ H M) : ∀ {hs : List HdR} {l : MetL} {ds : List D}, HsOk K hs l → (metH hs c).bind (rtDs e) = some ds →
    (∀ φ' H' v, Ext φ H φ' H' → MH K φ' H' M → Rep K φ' H' (.tup ds) v → Q v H') → metW K Q l (.ref C) dd H
  | [], _, _, h, e, _ => by cases e
  | h :: hs, _, ds, ok, e, q => by
    cases ok with
    | cons hx hf r =>
      unfold metH at e
      cases hb : h.xm.lookup c with
      | none => rw [hb] at e; cases e
      | some b =>
        rw [hb] at e
        refine ⟨b, hx c b C hb hn, fun ht => ?_, fun hf => ?_⟩
        · subst ht
          obtain ⟨vs, t1, t2⟩ := rt_tells hn xr (fun n hm => hf c C n hb hn hm) e
          exact ⟨vs, t1, fun t nt => end_tup m nt t2 q⟩
        · subst hf
          exact metW_of hn xr m r e q
theorem ext_n {K : PySem.W.Frag} {φ : Ph} {H H1 : Hp} {M : List D} (m : MH K φ H M) (e : LamX.ExtN H H1) (t : LamX.Tabs TabC.T H1) : Ext φ H φ H1 ∧ MH K φ H1 M := by
  have ex : Ext φ H φ H1 := ⟨⟨[], by simp⟩, rfl, fun b o h nt n => ⟨e b o h nt, n⟩⟩
  refine ⟨ex, m.nd, m.len, fun b hb => ?_, t, fun n a d h1 h2 => ?_⟩
  · obtain ⟨n1, u, hu, hx⟩ := m.bar b hb
    exact ⟨n1, u, e b u hu hx.1, hx⟩
  · obtain ⟨u, hu, hx⟩ := (m.at_ n a d h1 h2).there
    exact (m.at_ n a d h1 h2).ext ex ((e a u hu hx.1).trans hu.symm)
theorem met_use {K : PySem.W.Frag} {W : WX} {cl : Cl} {tag : Str} {hs : List HdR} {l : MetL} {mb : E} (ok : HsOk K hs l) (hhi : cl.hi = true) {σ : L2.St} {H : Hp} {Q : VK} (h : tE K W (evE cl (.met tag hs mb)) σ H Q) :
    LamX.tLam TabC.T (TTmet K tag l) (fun E => tE K (fun c d _ H => E c d H) (evE cl.lower mb)) σ H Q := by
  obtain ⟨L, φ, M, lr, mh, p⟩ := h
  replace p := show PR K W σ φ H (if cl.hi then metR tag hs (evE cl.lower mb L M) else .bad) _ from p
  rw [if_pos hhi] at p
  refine ⟨mh.tab, fun H1 e t => ?_⟩
  obtain ⟨ex, mh1⟩ := ext_n mh e t
  refine ⟨L, φ, M, lr.ext ex, mh1, ?_⟩
  replace p := show PR K W σ φ H (metR tag hs (evE cl.lower mb L M)) _ from p
  cases hr : evE cl.lower mb L M with
  | bad => rw [hr] at p; exact False.elim p
  | ok d M' =>
    rw [hr] at p
    intro φ' H' e' m' v r
    refine ⟨by
      show 2 ≤ sizeLine
      decide, fun t nt => ?_⟩
    exact end_tup m' nt (.cons (.str tag) (.cons r .nil)) fun φ2 H2 u e2 m2 r2 => p φ2 H2 ((ex.trans e').trans e2) m2 u r2
  | exc c x M' =>
    rw [hr] at p
    intro φ' H' cls dd e' m' xr
    obtain ⟨C, hn, hc, hv⟩ := id xr
    subst hc
    replace p := show PR K W σ φ H (match (metH hs c).bind (rtDs x) with | some ds => R.ok (D.tup ds) M' | none => .bad) _ from p
    cases hm : (metH hs c).bind (rtDs x) with
    | none =>
      rw [hm] at p
      exact False.elim p
    | some ds =>
      rw [hm] at p
      exact metW_of hn xr m' ok hm fun φ2 H2 v e2 m2 r2 => p φ2 H2 ((ex.trans e').trans e2) m2 v r2
/-- a def that calls what it got, by its text -/
structure MetI where
  a : Str
  tag : Str
  hs : List HdR
structure MetOk (K : PySem.W.Frag) (mg : Str → Option Value) (x : Str) (mi : MetI) : Prop where
  ex : ∃ (g : Addr) (st : Stmt) (oc dV kV doc pm cdv ct : Value) (an od : Option Addr) (osl : Array (Option Value)) (Ng : List Str) (j kt : Nat) (p1 p2 pc pt pr pos : Pos) (h₀ : ExceptHandler) (hds : List ExceptHandler) (l : MetL),
    mg x = some (.ref g) ∧ PySem.W.keepIn K (.ref g) = true ∧ K.lookup g = some ⟨oc, od, .func (PySem.W.fnOf x x (defArgs st) (defBody st) (defScope st) dV kV doc pm an cdv ct), osl⟩ ∧ PySem.W.codeIn K cdv x = true ∧
    L2.Binds K (PySem.W.fnOf x x (defArgs st) (defBody st) (defScope st) dV kV doc pm an cdv ct) [mi.a] [] ∧ FnScope Ng [mi.a] (defScope st) ∧ Ng[0]? = some mi.a ∧ Vis (defScope st) mi.a ∧
    defBody st = [.Try [.Return (some (.Tuple [.Constant (.str mi.tag) j pc, .Call (.Name mi.a p1) [] [] p2] kt pt)) pr] (h₀ :: hds) [] [] pos] ∧ HdM mg (defScope st) Ng (h₀ :: hds) l ∧ HsOk K mi.hs l ∧
    (mi.a == ("__debug__" : Str)) = false ∧ (mi.a == ("__classdict__" : Str)) = false
/-- the context of a def that makes lambdas -/
structure LamOk (X : Cx) : Prop where
  ex : ∃ c P, X.env.code = .ref c ∧ LamX.TabB X.base X.mg c P ∧ (P, X.env.qual ++ "<lambda>") ∈ TabC.T ∧ ∀ p ∈ TabC.T, p.1 = P → p.2 = X.env.qual ++ "<lambda>"
abbrev noArgs : Arguments := { posonlyargs := [], args := [], vararg := none, kwonlyargs := [], kw_defaults := [], kwarg := none, defaults := [] }
theorem me_met {X : Cx} {W : WX} {cl : Cl} {x : Str} {mi : MetI} {k : Nat} {body : Expr} {scope : Scope} {mb : E} {p lpos pos : Pos} (hc : cl.hi = true → Room (k + 2) X.A ∧ ∀ (A : Around) (outer : List Env) (s : Shared) (H : Hp) (Ex : XK) (f c' : Addr), Room k (A.deeper (LamX.lamEnv X scope s.heap.objs.size f c')) → PE (LamX.lamCx X A outer s H Ex scope f c') body (tE X.K (fun c d _ H => Ex c d H) (evE cl.lower mb)))
    (mo : MetOk X.K X.mg x mi) (lo : LamOk X) (hg : Gl X x) (hdb : (x == ("__debug__" : Str)) = false) (L : LamX.LamS X.env.scope scope) : PE X (.Call (.Name x p) [.Lambda noArgs body scope lpos] [] pos) (tE X.K W (evE cl (.met mi.tag mi.hs mb))) := by
  cases hh : cl.hi with
  | false =>
    refine ⟨fun pins s σ H Q I h => ?_⟩
    obtain ⟨L, φ, M, lr, mh, p⟩ := h
    replace p := show PR X.K W σ φ H (if cl.hi then metR mi.tag mi.hs (evE cl.lower mb L M) else .bad) (fun d _ φ' H' => ∀ v, Rep X.K φ' H' d v → Q v H') from p
    rw [hh] at p
    exact False.elim p
  | true =>
    obtain ⟨hr, hbody⟩ := hc hh
    obtain ⟨g, st, oc, dV, kV, doc, pm, cdv, ct, an, od, osl, Ng, j, kt, p1, p2, pc, pt, pr, pos', h₀, hds, l, m1, m2, m3, m4, m5, m6, m7, m8, m9, m10, m11, m12, m13⟩ := mo.ex
    obtain ⟨c, P, l1, l2, l3, l4⟩ := lo.ex
    have h0 : ∀ f : Addr, (L2.start Ng [V.ref f])[0]? = some (some (V.ref f)) := fun f => by
      unfold L2.start
      rfl
    have hG : LamX.GivesTo X Ng x (defScope st) g cdv (defBody st) mi.a (X.env.qual ++ "<lambda>") (TTmet X.K mi.tag l) := by
      rw [m9]
      exact met_gives m6.nd m10 h0
    exact imp_PE (LamX.pe_lamcall (T := TabC.T) (TT := TTmet X.K mi.tag l) (t := fun Ex => tE X.K (fun c d _ H => Ex c d H) (evE cl.lower mb)) hg m1 m2 m3 m4 m5 m6 m7 m8 hG l2 l1 l3 l4 hr L rfl (fun _ _ _ _ _ => rfl) hbody hdb m12 m13) fun σ H Q h => met_use m11 hh h
end MP
/-! MiniPy 12d: sorted(.., key=lambda x: ..). -/
namespace MP
open PySem PySem.Spec PyProof.Rows L2
variable [TabC]
section
variable {prog : Program} {w : World} {A : Around} {E : Value → Shared → Prop}
/-- the keys are asked one by one, under any invariant -/
theorem key_rest {s : Shared} {a kS : Addr} {vs : List Value} {e1 : Nat} {P : PySem.Fin → Shared → Prop} {f : Value} (hka : kS ≠ a) (hZ : vs.length ≤ sizeLine) (Ik : Nat → Array Value → Shared → Prop)
    (hS : ∀ i kA s', Ik i kA s' → kA.size = i ∧ (∃ e, s'.heap.get? kS = some (seqObj "list" kA e)) ∧ s'.heap.get? a = some (seqObj "list" #[] e1)) (h0 : Ik 0 #[] s)
    (turn : ∀ i v kA s', vs[i]? = some v → Ik i kA s' → wpAny (model prog w) A (call f [v]) (fun k s2 => (∃ e, s2.heap.get? kS = some (seqObj "list" kA e)) ∧
      ∀ h' e, h'.get? kS = some (seqObj "list" (kA.push k) e) → (∀ b o, b ≠ kS → s2.heap.get? b = some o → h'.get? b = some o) → Ik (i + 1) (kA.push k) { s2 with heap := h' }) (fun _ _ => False) s')
    (fin : ∀ kA s', Ik vs.length kA s' → ∃ κ, PySem.W.SortsAt prog w A s' κ kA.toList ∧ ∀ h' tk c, (∀ b o, b ≠ a → b ≠ kS → s'.heap.get? b = some o → h'.get? b = some o) →
      h'.get? a = some (seqObj "list" (PySem.W.sortVals κ false kA.toList vs).toArray c) → P (.done (.ret .none)) { s' with heap := h', toks := tk }) :
    wpAny (model prog w) A (ksk_rest a f false vs.toArray e1 (.ref kS)) P E s := by
  unfold ksk_rest
  refine wpAny_bind (wpAny_rule ?_)
  first
    | rw [List.forIn_toArray]
    | (rw [← Array.forIn_toList]; simp only [List.toList_toArray])
    | rw [← Array.forIn_toList]
  refine wpAny_bind (ksk_fold (fun i s' => ∃ kA, Ik i kA s') vs 0 s ⟨#[], h0⟩ ?step ?done)
  case step =>
    rintro j x s' hx ⟨kA, hk⟩
    simp only [Nat.zero_add] at hk ⊢
    obtain ⟨z1, ⟨ep, z2⟩, z3⟩ := hS _ _ _ hk
    have hj : j < vs.length := (List.getElem?_eq_some_iff.mp hx).1
    have hz : kA.size ≤ sizeLine := by omega
    refine wpAny_bind (wpAny_attempt (wpAny_mono (turn j x kA s' hx hk) (fun k s2 q => ?_) fun _ _ hF => hF.elim))
    obtain ⟨⟨e2, n2⟩, q⟩ := q
    try dsimp only
    have sb := Heap.SameBut.update s2.heap kS (Obj.mapSeq (·.push k))
    obtain ⟨c2, hc2⟩ : ∃ c2, (s2.heap.update kS (Obj.mapSeq (·.push k))).get? kS = some (seqObj "list" (kA.push k) c2) := ⟨_, get?_update_seq n2 (·.push k)⟩
    refine wpAny_bind (listUpdate_at n2 rfl ?_ hz (Nat.le_trans (Nat.le_of_eq (Array.size_push ..)) (Nat.succ_le_succ hz)))
    exact wpAny_pure ⟨rfl, _, q _ _ hc2 fun b o hb e => (sb.2 b hb).trans e⟩
  case done =>
    rintro s' ⟨kA, hk⟩
    rw [Nat.zero_add] at hk
    obtain ⟨z1, ⟨ep, z2⟩, z3⟩ := hS _ _ _ hk
    obtain ⟨κ, hκ, q⟩ := fin kA s' hk
    try dsimp only
    refine wpAny_bind (listItems_at z2 rfl ?_)
    refine PySem.W.keyH_end (κ := κ) (h₁ := PySem.W.hideAll s'.heap [kS]) (fun b o _ e => PySem.W.of_hideAll [kS] e) (PySem.W.hideAll_none [kS] List.mem_cons_self) z2 z3 hka hκ z1 hZ fun h3 tk3 c k3 n3 => q h3 tk3 c (fun b o hb hb2 e => k3 b o hb ?_) n3
    exact PySem.W.hideAll_get [kS] e (by simpa using hb2)
theorem key_tree {s : Shared} {a : Addr} {vs : List Value} {n : Nat} {P : PySem.Fin → Shared → Prop} {f : Value} (ho : s.heap.get? a = some (seqObj "list" vs.toArray n)) (hZ : vs.length ≤ sizeLine)
    (h : ∀ kS e1 h', s.heap.objs.size ≤ kS → (∀ b o, b ≠ a → s.heap.get? b = some o → h'.get? b = some o) → h'.get? a = some (seqObj "list" #[] e1) → h'.get? kS = some (seqObj "list" #[] 0) →
      wpAny (model prog w) A (ksk_rest a f false vs.toArray e1 (.ref kS)) P E { s with heap := h' }) :
    wpAny (model prog w) A (ksk_tree a f false) P E s := by
  have ha : a < s.heap.objs.size := Heap.lt_size ho
  obtain ⟨e1, ho1⟩ : ∃ e1, (s.heap.update a (Obj.mapSeq fun _ => (#[] : Array Value))).get? a = some (seqObj "list" #[] e1) := ⟨_, get?_update_seq ho fun _ => #[]⟩
  have hkS : ((s.heap.update a (Obj.mapSeq fun _ => (#[] : Array Value))).push (seqObj "tuple" vs.toArray 0)).objs.size = s.heap.objs.size + 1 := by rw [size_push', Heap.size_update]
  unfold ksk_tree
  refine wpAny_bind (listItems_at ho rfl ?_)
  refine wpAny_bind (listUpdate_at ho rfl ?_ (by rw [List.size_toArray]; exact hZ) (Nat.zero_le _))
  refine wpAny_bind (seqEpoch_at ho1 rfl ?_)
  refine wpAny_bind (wpAny_newTuple ?_ (by show vs.length ≤ _; exact hZ))
  refine wpAny_bind (wpAny_newList ?_ (Nat.zero_le _))
  refine wpAny_holding ?_
  refine h _ e1 _ (by rw [hkS]; exact Nat.le_succ _) (fun b o hb e => PySem.W.sortingHeap_old hb e) (Heap.get?_push_of_some _ (Heap.get?_push_of_some _ ho1)) (Heap.get?_push_size _ rfl)
/-- sorted(x, key=f): x is gathered, its items are sorted in a new list -/
theorem sorted_tree {s : Shared} {arg f : Value} {Q : Value → Shared → Prop} {kw : List (Str × Value)} (ha1 : argsOk "sorted" ⟨[arg], kw⟩) (ha2 : ∀ x, argsOk "list.sort" ⟨[.ref x], kw⟩) (ht : ∀ x, Builtin.«list.sort» ⟨[.ref x], kw⟩ = ksk_tree x f false)
    (hc : ∀ Q' : List Value → Shared → Prop, (∀ (vs : List Value) (h' : Heap) (tk : Nat), vs.length ≤ sizeLine → (∀ b o, s.heap.get? b = some o → h'.get? b = some o) →
        (∀ E', wpAny (model prog w) A.in1.in1 (ksk_tree h'.objs.size f false) (fun fn s' => fn = .done (.ret .none) ∧ Q (.ref h'.objs.size) s') E' { s with heap := h'.push (seqObj "list" vs.toArray 0), toks := tk }) → Q' vs { s with heap := h', toks := tk }) →
      wpAny (model prog w) A.in1 (collect arg) Q' E s) :
    wpAny (model prog w) A (call (.builtin "sorted") [arg] kw) Q E s := by
  refine call_function_entry_kw kind_sorted plain_sorted entry_sorted ha1 ?_
  unfold Builtin.«sorted»
  refine wpAny_bind (m := checkCount "sorted" 1 1 _) (wpAny_pure ?_)
  refine wpAny_bind (hc _ fun vs h' tk hz kp go => ?_)
  refine wpAny_bind (wpAny_newList ?_ hz)
  refine wpAny_bind (wpAny_holding (wpAny_call_entry_kw slot_list_sort ⟨_, Heap.get?_push_size _ rfl, rfl⟩ entry_list_sort ?body (ha2 _)))
  case body =>
    rw [ht]
    refine wpAny_mono (go _) (fun fn s' hf => ?_) fun _ _ e => e
    obtain ⟨rfl, hq⟩ := hf
    exact ⟨_, rfl, wpAny_pure ⟨_, rfl, hq⟩⟩
end
end MP
/-! MiniPy 12e: a lambda with one parameter, called. -/
namespace MP
open PySem PySem.Spec PyProof.Rows L2
variable [TabC]
/-- one parameter; else captured names and globals -/
structure LamS1 (sc scope : Scope) (p : Str) : Prop where
  kind : scope.kind = .function
  co : scope.isCoroutine = false
  gen : scope.isGenerator = false
  own : ∀ y ∈ scope.names, (y.2 = .local → y.1 = p) ∧ y.2 ≠ .cell
  par : scope.names.lookup p = some .local
  free : ∀ y ∈ scope.names, y.2 = .free → sc.names.lookup y.1 = some .cell ∨ sc.names.lookup y.1 = some .free
def lamS1B (sc scope : Scope) (p : Str) : Bool :=
  decide (scope.kind = .function) && (!scope.isCoroutine && (!scope.isGenerator && (decide (scope.names.lookup p = some .local) && scope.names.all fun y => (!decide (y.2 = .local) || decide (y.1 = p)) && (!decide (y.2 = .cell) && (!decide (y.2 = .free) || (decide (sc.names.lookup y.1 = some .cell) || decide (sc.names.lookup y.1 = some .free)))))))
theorem lamS1_by {sc scope : Scope} {p : Str} (h : lamS1B sc scope p = true) : LamS1 sc scope p := by
  unfold lamS1B at h
  simp only [Bool.and_eq_true, Bool.or_eq_true, Bool.not_eq_true', decide_eq_true_eq, decide_eq_false_iff_not, List.all_eq_true] at h
  obtain ⟨h1, h2, h3, h4, h5⟩ := h
  refine ⟨h1, h2, h3, fun y hy => ⟨fun e => ?_, (h5 y hy).2.1⟩, h4, fun y hy e => ?_⟩
  · rcases (h5 y hy).1 with z | z
    · exact absurd e z
    · exact z
  · rcases (h5 y hy).2.2 with z | z
    · exact absurd e z
    · exact z
section
variable {X : Cx} {pins : List (Addr × Obj)} {σ : L2.St} {H : Hp} {s : Shared}
theorem LamS1.has {scope : Scope} {p : Str} (L : LamS1 X.env.scope scope p) (ok : X.Ok) : ∀ y ∈ scope.names, y.2 = .free → ∃ c, X.env.cells.lookup y.1 = some c := fun y hy e => by
  rcases L.free y hy e with k | k
  · exact ok.has _ (.inl k)
  · exact ok.has _ (.inr k)
/-- the start of the lambda's frame -/
theorem lam_start1 {A : Around} {outer : List Env} {Ex : XK} {scope : Scope} {p : Str} {f c' : Addr} {h₁ : Heap} {tk i : Nat} {u : Value} {v : V} (I : Inv X pins σ H s) (L : LamS1 X.env.scope scope p) (e0 : Env0 X.prog X.w X.K X.mg X.base A outer s H) (hd : A.handled = none)
    (hN : X.N.Nodup) (hi : X.N[i]? = some p) (r : RelV v u) (hns : h₁.Ns s.heap.objs.size fun y => [(p, u)].reverse.lookup y) (kp : ∀ b o, s.heap.get? b = some o → h₁.get? b = some o) :
    Inv (LamX.lamCx X A outer s H Ex scope f c') [] (σ.set i (some v)) H { s with heap := h₁, toks := tk } := by
  have hfree := L.has I.ok
  have cm : ∀ {y c}, (cloFrom X.env.cells scope.names []).lookup y = some c → X.env.cells.lookup y = some c := fun {y c} e => by
    rcases cloFrom_mem (PySem.mem_of_lookup e) with hm | ⟨h1, h2⟩
    · cases hm
    · obtain ⟨c1, hc⟩ := hfree _ h1 rfl
      replace hc : X.env.cells.lookup y = some c1 := hc
      have e2 : c = c1 := by
        rw [h2, hc] <;> rfl
      rw [e2]
      exact hc
  have look : ∀ {y}, scope.names.lookup y = some .free → ∃ c, (cloFrom X.env.cells scope.names []).lookup y = some c := fun {y} hl =>
    mem_lookup (cloFrom_has (cells := X.env.cells) (acc := []) (PySem.mem_of_lookup hl))
  have cellK : ∀ {c : Addr} {v : Option Value}, s.heap.IsCell c v → h₁.IsCell c v := fun {c v} ⟨o, ho, hd⟩ => ⟨o, kp _ _ ho, hd⟩
  have noA : ∀ b : Addr, b ∉ (LamX.lamCx X A outer s H Ex scope f c').ex := fun b z => absurd (show b ∈ ([] : List Addr) from z) (by simp)
  refine ⟨⟨e0.mod, L.kind, rfl, rfl, Nat.le_refl _, fun y z c e1 e2 => I.ok.inj y z c (cm e1) (cm e2), fun y hy => ?_, fun y c z _ => ?_, fun _ => hd, Around.frames_deeper e0.frames, .inr ⟨rfl, rfl⟩, fun b z => absurd z (noA b), e0.bs, e0.bsz, fun b _ _ => noA b,
      fun b z => absurd z (noA b), e0.funs, e0.frf⟩, rfl, e0.bare, Un.kept kp, ⟨_, hns, fun j y v' e1 e2 e3 => ?_⟩, fun y c e => ?_, e0.hok.fresh (Nat.le_refl _), fun y c e => ?_, fun q hq => absurd (show q ∈ ([] : List (Addr × Obj)) ++ [] from hq) (by simp), e0.hok.kept kp, ?_⟩
  · replace hy : scope.names.lookup y = some .cell ∨ scope.names.lookup y = some .free := hy
    rcases hy with hy | hy
    · exact absurd rfl (L.own _ (PySem.mem_of_lookup hy)).2
    · exact look hy
  · replace z : false = true := z
    cases z
  · replace e3 : Vis scope y := e3
    replace e1 : X.N[j]? = some y := e1
    by_cases hy : y = p
    · subst hy
      have hj : j = i := L2.nodup_ix hN e1 hi
      subst hj
      have hl : j < σ.length := by rw [I.len]; exact (List.getElem?_eq_some_iff.mp hi).1
      rw [List.getElem?_set_self hl] at e2
      cases e2
      exact ⟨u, r, .inl ⟨L.par, by simp⟩⟩
    · have hj : i ≠ j := fun z => hy (by rw [← z, hi] at e1; exact (Option.some.inj e1).symm)
      rw [List.getElem?_set_ne hj] at e2
      rcases e3 with k | k | k
      · exact absurd ((L.own _ (PySem.mem_of_lookup k)).1 rfl) hy
      · exact absurd rfl (L.own _ (PySem.mem_of_lookup k)).2
      · obtain ⟨m, hn, hl⟩ := I.loc
        have hvis : Vis X.env.scope y := (L.free _ (PySem.mem_of_lookup k) rfl).elim (fun k => .inr (.inl k)) (fun k => .inr (.inr k))
        obtain ⟨w', r', q⟩ := hl j y v' e1 e2 hvis
        obtain ⟨c2, h2⟩ := look k
        refine ⟨w', r', .inr ⟨.inr k, c2, h2, ?_⟩⟩
        have c1 := cm h2
        rcases q with ⟨k', _⟩ | ⟨_, c3, e', z⟩
        · replace k' : X.env.scope.names.lookup y = some .local := k'
          rcases L.free _ (PySem.mem_of_lookup k) rfl with k2 | k2 <;> rw [show X.env.scope.names.lookup y = _ from k2] at k' <;> cases k'
        · rw [c1] at e'
          cases e'
          exact cellK z
  · obtain ⟨w', z⟩ := I.cell y c (cm e)
    exact ⟨w', cellK z⟩
  · exact I.freeC y c (cm e)
  · rw [List.length_set]
    exact I.len
/-- f(u), f the lambda -/
theorem lam_call1 {A : Around} {scope : Scope} {p : Str} {params : Arguments} {body : Expr} {f c' : Addr} {pm ctv : Value} {i k : Nat} {u : Value} {v : V} {tb : TE} {Q : VK} (I : Inv X pins σ H s) (L : LamS1 X.env.scope scope p) (hf : s.heap.get? f = some (PySem.W.kla_obj "<lambda>" (X.env.qual ++ "<lambda>") params body scope (cloFrom X.env.cells scope.names []) pm c' ctv))
    (hco : H c' = some (LamX.CodeO c' (X.env.qual ++ "<lambda>"))) (hbind : bindArgs (PySem.W.kla_fn "<lambda>" (X.env.qual ++ "<lambda>") params body scope (cloFrom X.env.cells scope.names []) pm (.ref c') ctv) ⟨[u], []⟩ = pure [(p, u)])
    (hA : A.frames = X.A.frames) (hr : Room (k + 1) A) (hN : X.N.Nodup) (hi : X.N[i]? = some p) (r : RelV v u)
    (hbody : ∀ (A : Around) (outer : List Env) (s : Shared) (H : Hp) (f c' : Addr), Room k (A.deeper (LamX.lamEnv X scope s.heap.objs.size f c')) → PE (LamX.lamCx X A outer s H (fun _ _ _ => False) scope f c') body tb) (ht : tb (σ.set i (some v)) H Q) :
    wpAny (model X.prog X.w) A (call (.ref f) [u]) (EP X pins σ Q) (fun _ _ => False) s := by
  obtain ⟨⟨oc, vs, t, hoc, hdc, hvc⟩, _, _⟩ := I.hok c' _ hco
  have e0 : Env0 X.prog X.w X.K X.mg X.base A X.stack s H := ⟨hA.trans I.env0.frames, I.env0.mod, I.env0.bs, I.env0.bsz, I.env0.funs, I.env0.frf, I.env0.hok, I.env0.bare⟩
  have rc : codeAny (model X.prog X.w) A (.call (.ref f) ⟨[u], []⟩) (CR (L2.CX X.prog X.w) X.stack X.prog X.w H s Q (fun _ _ _ => False)) s := by
    refine PySem.W.kla_callFunE hr.depth hf rfl L.co L.gen rfl ⟨c', oc, vs, t, rfl, hoc, hdc, hvc⟩ ?_
    rw [hbind]
    refine wpAny_pure (wpAny_newFunctionEnv (fun y hy => (L.own y hy).2) (fun y hy => ?_) (fun h₁ hns hsb => ⟨I.nolimit.fresh _ hsb, ?_⟩) L.kind)
    · have e : y = (p, u) := by simpa using hy
      rw [e]
      exact L.par
    show codeAny _ _ (.expr body (LamX.lamEnv X scope s.heap.objs.size f c')) _ _
    have kp : ∀ b o, s.heap.get? b = some o → h₁.get? b = some o := fun b o e => hsb.extBut b o (Nat.ne_of_lt (Heap.lt_size e)) (Heap.get?_push_of_some _ e)
    have J : Inv (LamX.lamCx X A X.stack s H (fun _ _ _ => False) scope f c') [] (σ.set i (some v)) H { s with heap := h₁, toks := s.toks + [(p, u)].length } := lam_start1 I L e0 hr.hd hN hi r hns kp
    refine PySem.W.kla_codeExpr (wpAny_mono ((hbody _ _ s H f c' (hr.deeper _)).run [] _ _ H Q J ht) (fun v s' hq => ?_) fun e s' hq => hq)
    obtain ⟨w', H', J', rv, q⟩ := hq
    exact ⟨w', H', J'.os, J'.bare, J'.base, J'.hok, rv, q⟩
  refine wpAny_call (codeAny_mono rc fun r s' hq => ?_)
  cases r with
  | error e =>
    obtain ⟨_, _, _, _, _, _, _, _, _, _, _, _, z⟩ := hq
    exact z.elim
  | ok fl =>
    cases fl with
    | ret u => exact I.after hq
    | next => exact False.elim hq
    | brk => exact False.elim hq
    | cont => exact False.elim hq
end
end MP
/-! MiniPy 12f: sorted(.., key=lambda x: ..), by data. -/
namespace MP
open PySem PySem.Spec PyProof.Rows L2
variable [TabC]
/-- one positional parameter -/
abbrev oneArg (a : Arg) : Arguments := { posonlyargs := [], args := [a], vararg := none, kwonlyargs := [], kw_defaults := [], kwarg := none, defaults := [] }
theorem bind_one {n q : Str} {a : Arg} {body : Expr} {scope : Scope} {cl : List (Str × Addr)} {pm cv ctv u : Value} : bindArgs (PySem.W.kla_fn n q (oneArg a) body scope cl pm cv ctv) ⟨[u], []⟩ = pure [(a.arg, u)] := by
  unfold bindArgs
  simp [seqItems?, List.lookup]
  first | rfl | (simp [notAStandIn])
/-- what can be gathered -/
def Src (K : PySem.W.Frag) (H : Hp) (a : Addr) (xs : List V) : Prop := SqL K H a xs ∨ SqT K H a xs ∨ ∃ lo hi, H a = some (.rng lo hi) ∧ RgOk lo hi ∧ xs = rgV lo hi
section
variable {X : Cx} {pins : List (Addr × Obj)} {σ : L2.St} {H : Hp} {s : Shared}
theorem Src.mono {K : PySem.W.Frag} {H H' : Hp} {a : Addr} {xs : List V} (h : Src K H a xs) (e : ∀ b o, H b = some o → NT o → H' b = some o) : Src K H' a xs := by
  rcases h with h | h | ⟨lo, hi, h1, h2, h3⟩
  · refine .inl ?_
    rcases h with (h | ⟨o, h⟩) | h
    · exact .inl (.inl (e _ _ h fun _ z => by cases z))
    · exact .inl (.inr ⟨o, e _ _ h fun _ z => by cases z⟩)
    · exact .inr h
  · refine .inr (.inl ?_)
    rcases h with (h | ⟨o, h⟩) | h
    · exact .inl (.inl (e _ _ h fun _ z => by cases z))
    · exact .inl (.inr ⟨o, e _ _ h fun _ z => by cases z⟩)
    · exact .inr h
  · exact .inr (.inr ⟨lo, hi, e _ _ h1 (fun _ z => by cases z), h2, h3⟩)
/-- an object that stands untracked is tracked from now on -/
theorem inv_track {a : Addr} {o : HO} (I : Inv X pins σ H s) (f : FpOk X pins H a) (ha : X.s_0.heap.objs.size ≤ a) (new : ObjOk X.prog X.w (upd H a o) s.heap a o) : Inv X pins σ (upd H a o) s := by
  obtain ⟨f1, f2, f3, f4, f5, f6⟩ := f
  have old : ∀ b u, X.s_0.heap.get? b = some u → b ≠ a := fun b u e => Nat.ne_of_lt (Nat.lt_of_lt_of_le (Heap.lt_size e) ha)
  refine ⟨I.ok, I.os, I.bare, ⟨I.base.keep, I.base.slot, fun b u e n x => ?_, I.base.there, fun b xs e => ?_, fun b u v e => ?_, fun b ps e => ?_⟩, I.loc, I.cell, ?_, fun x c e => ?_, fun p hp => ?_, fun b u e => ?_, I.len⟩
  · rw [upd_ne (old b u e)]
    exact I.base.free b u e n x
  · have q := I.base.tups b xs e
    rw [upd_ne (ne_of_none q f1)]
    exact q
  · have q := I.base.frzs b u v e
    rw [upd_ne (ne_of_none q f1)]
    exact q
  · obtain ⟨more, q⟩ := I.base.tbls b ps e
    exact ⟨more, by rw [upd_ne (ne_of_none q f1)]; exact q⟩
  · rw [upd_ne (Ne.symm f2)]
    exact I.free
  · rw [upd_ne (f5 x c e)]
    exact I.freeC x c e
  · obtain ⟨p1, p2, p3⟩ := I.pin p hp
    exact ⟨p1, by rw [upd_ne (f6 p hp)]; exact p2, p3⟩
  · by_cases hb : b = a
    · subst hb
      rw [upd_same] at e
      cases e
      exact new
    · rw [upd_ne hb] at e
      exact (I.hok b u e).stay (fun c v _ q => q) (fun c q => by rw [upd_ne (ne_of_none q f1)]; exact q) fun c xs q => by rw [upd_ne (ne_of_none q f1)]; exact q
theorem src_collect {A : Around} {E : Value → Shared → Prop} {a : Addr} {xs : List V} {Q : List Value → Shared → Prop} (hh : A.handled = none) (I : Inv X pins σ H s) (h : Src X.K H a xs)
    (q : ∀ vs h' tk, Vals xs vs → vs.length ≤ sizeLine → (∀ b o, s.heap.get? b = some o → h'.get? b = some o) → Q vs { s with heap := h', toks := tk }) : wpAny (model X.prog X.w) A (collect (.ref a)) Q E s := by
  have kp : ∀ vs : List Value, ∀ b o, s.heap.get? b = some o → ((s.heap.push (seqObj "list" #[] 0)).update s.heap.objs.size (Obj.mapSeq (· ++ vs.toArray))).get? b = some o := fun vs b o e => by
    rw [Heap.get?_update_ne _ _ _ _ (Nat.ne_of_lt (Heap.lt_size e))]
    exact Heap.get?_push_of_some _ e
  rcases h with h | h | ⟨lo, hi, h1, h2, rfl⟩
  · obtain ⟨its, rv, hl, hz⟩ := I.list h
    have hz' : its.length ≤ sizeLine := by rw [← rv.length]; exact hz
    exact collect_list hl.isList (q its _ s.toks rv hz' (kp its)) hz'
  · obtain ⟨its, rv, hl, hz⟩ := I.tuple h
    have hz' : its.length ≤ sizeLine := by rw [← rv.length]; exact hz
    exact collect_tuple hl (q its _ s.toks rv hz' (kp its)) hz'
  · obtain ⟨b1, b2, b3, b4, b5⟩ := h2
    obtain ⟨t, u, v, ho⟩ := I.hok a _ h1
    refine collect_range (n := (hi - lo).toNat) hh (show IsRange s.heap a lo hi 1 t u v from ho) (small_one b1 b2 b3 b4) (rangeSize_nat lo hi) b5 fun h' tk acc k e => ?_
    have hv := vals_rg e
    exact q _ h' tk hv (by rw [← hv.length, rgV_length, sizeLine_eq]; omega) k
end
mutual
theorem sub_data {g : Nat → Option D} : ∀ {d : D} {pd : PyData}, toPD d = some pd → sub g d = some d
  | .non, _, _ => by simp [sub]
  | .bl _, _, _ => by simp [sub]
  | .int _, _, _ => by simp [sub]
  | .str _, _, _ => by simp [sub]
  | .tup l, pd, h => by
    simp only [toPD, Option.map_eq_some_iff] at h
    obtain ⟨ps, h, _⟩ := h
    simp [sub, subs_data h]
  | .lst l, pd, h => by
    simp only [toPD, Option.map_eq_some_iff] at h
    obtain ⟨ps, h, _⟩ := h
    simp [sub, subs_data h]
  | .scr _, _, h => by simp [toPD] at h
  | .dct _ _, _, h => by simp [toPD] at h
  | .ref _, _, h => by simp [toPD] at h
  | .ty _, _, h => by simp [toPD] at h
  | .fn _, _, h => by simp [toPD] at h
theorem subs_data {g : Nat → Option D} : ∀ {l : List D} {ps : List PyData}, toPDs l = some ps → subs g l = some l
  | [], _, _ => by simp [subs]
  | d :: r, ps, h => by
    simp only [toPDs, Option.bind_eq_some_iff, Option.map_eq_some_iff] at h
    obtain ⟨p, h1, q, h2, _⟩ := h
    simp [subs, sub_data h1, subs_data h2]
end
section
variable {K : PySem.W.Frag} {φ : Ph} {H : Hp}
theorem rep_dp {d : D} {v : V} {pd : PyData} (r : Rep K φ H d v) (h : toPD d = some pd) : Dp K H v pd :=
  dp_sub (g := fun _ => none) (fun _ _ _ _ _ e => by cases e) d v d pd r (sub_data h) h
theorem reps_reads {X : Cx} {pins : List (Addr × Obj)} {σ : L2.St} {s : Shared} (I : Inv X pins σ H s) : ∀ {ks : List D} {kvs : List V} {us : List Value} {kz : List PyData}, Reps X.K φ H ks kvs → Vals kvs us → toPDs ks = some kz → PySem.W.EachIs (fun v d => ∃ as, Reads s.heap v d as) us kz
  | [], _, _, _, r, rv, h => by
    cases r
    cases rv
    cases h
    exact .nil
  | d :: ks, _, _, _, r, rv, h => by
    cases r with
    | cons r1 r2 =>
      cases rv with
      | cons v1 v2 =>
        simp only [toPDs, Option.bind_eq_some_iff, Option.map_eq_some_iff] at h
        obtain ⟨p, h1, q, h2, rfl⟩ := h
        exact .cons (Dp.reads I _ _ _ (rep_dp r1 h1) v1) (reps_reads I r2 v2 h2)
end
theorem keysOk_is {kz : List PyData} (h : keysOk kz = true) : PySem.W.AllAlike kz ∧ PySem.W.Sortable kz ∧ ∀ d ∈ kz, d.depth ≤ 50 := by
  unfold keysOk at h
  simp only [Bool.and_eq_true, Bool.or_eq_true, List.all_eq_true, decide_eq_true_eq] at h
  obtain ⟨h1, h2, h3⟩ := h
  refine ⟨h1, ?_, h3⟩
  rcases h2 with h2 | h2
  · refine .inl fun d hd => ?_
    have := h2 d hd
    cases d <;> simp [tupNE] at this
    rename_i l
    cases l
    · simp [tupNE] at this
    · exact ⟨_, _, rfl⟩
  · refine .inr fun d hd => ?_
    have := h2 d hd
    refine ⟨fun e => ?_, fun xs e => ?_⟩ <;> (subst e; simp [notTN] at this)
/-- the values sorted along with their data -/
theorem sort_each {K : PySem.W.Frag} {φ : Ph} {H : Hp} {ds : List D} {kz : List PyData} {xs : List V} {vs : List Value} {ks : List Value} {h : Heap} (r : Reps K φ H ds xs) (rv : Vals xs vs) (hl : ds.length = kz.length)
    (hal : PySem.W.AllAlike kz) (hk : PySem.W.EachIs (fun v d => ∃ as, Reads h v d as) ks kz) : ∃ ys, Reps K φ H (sortBy ds kz) ys ∧ Vals ys (PySem.W.sortVals (PySem.W.dataKind h kz) false ks vs) := by
  have hx : ds.length = xs.length := r.length
  have e1 : PySem.W.EachIs (fun v (b : (D × PyData) × V) => RelV b.2 v) vs ((ds.zip kz).zip xs) := by
    have go : ∀ (l : List (D × PyData)) (xs : List V) (vs : List Value), Vals xs vs → l.length = xs.length → PySem.W.EachIs (fun v (b : (D × PyData) × V) => RelV b.2 v) vs (l.zip xs) := by
      intro l
      induction l with
      | nil =>
        intro xs vs rv hl
        cases rv with
        | nil => exact .nil
        | cons _ _ => simp at hl
      | cons a l ih =>
        intro xs vs rv hl
        cases rv with
        | nil => simp at hl
        | cons r1 r2 => exact .cons r1 (ih _ _ r2 (by simpa using hl))
    exact go _ _ _ rv (by rw [List.length_zip]; omega)
  have ek : (((ds.zip kz).zip xs).map fun b => b.1.2) = kz := by
    have a1 : (((ds.zip kz).zip xs).map fun b => b.1) = ds.zip kz := List.map_fst_zip (by rw [List.length_zip]; omega)
    have a2 : (ds.zip kz).map (fun b => b.2) = kz := List.map_snd_zip (by omega)
    rw [show (fun b : (D × PyData) × V => b.1.2) = (fun b => b.2) ∘ (fun b => b.1) from rfl, ← List.map_map, a1, a2]
  have ko : PySem.W.KeyedOut false (((ds.zip kz).zip xs).map fun b => b.1.2) vs (PySem.W.sortVals (PySem.W.dataKind h kz) false ks vs) := by
    rw [ek]
    exact ⟨h, ks, hal, rfl, hk⟩
  have go := PySem.W.keyedOut_each (R := fun v (b : (D × PyData) × V) => RelV b.2 v) (fun b : (D × PyData) × V => b.1.2) ko e1
  generalize hS : ((ds.zip kz).zip xs).mergeSort (PySem.W.dataLe false fun b => b.1.2) = S at go
  have hm : ∀ b ∈ S, Rep K φ H b.1.1 b.2 := fun b hb => by
    have hb' : b ∈ (ds.zip kz).zip xs := by
      rw [← hS] at hb
      exact (List.mergeSort_perm _ _).mem_iff.mp hb
    obtain ⟨i, hi, e⟩ := List.mem_iff_getElem.mp hb'
    have h1 : ds[i]? = some b.1.1 ∧ xs[i]? = some b.2 := by
      have q : ((ds.zip kz).zip xs)[i]? = some b := by rw [List.getElem?_eq_getElem hi, e]
      rw [List.getElem?_zip_eq_some, List.getElem?_zip_eq_some] at q
      exact ⟨q.1.1, q.2⟩
    obtain ⟨v, g1, g2⟩ := r.get h1.1
    rw [h1.2] at g1
    cases g1
    exact g2
  have e2 : sortBy ds kz = S.map fun b => b.1.1 := by
    rw [sortBy_eq]
    have a1 : (((ds.zip kz).zip xs).map fun b => b.1) = ds.zip kz := List.map_fst_zip (by rw [List.length_zip]; omega)
    have q : (((ds.zip kz).zip xs).mergeSort (PySem.W.dataLe false fun b => b.1.2)).map Prod.fst = (ds.zip kz).mergeSort (PySem.W.dataLe false Prod.snd) :=
      (List.map_mergeSort (r := PySem.W.dataLe false fun b : (D × PyData) × V => b.1.2) (s := PySem.W.dataLe false Prod.snd) (f := Prod.fst) fun a _ b _ => rfl).trans (congrArg (fun l : List (D × PyData) => l.mergeSort (PySem.W.dataLe false Prod.snd)) a1)
    rw [← hS, ← q, List.map_map]
    rfl
  refine ⟨S.map fun b => b.2, ?_, ?_⟩
  · rw [e2]
    clear hS go e2
    induction S with
    | nil => exact .nil
    | cons b S ih => exact .cons (hm b List.mem_cons_self) (ih fun c hc => hm c (List.mem_cons_of_mem _ hc))
  · have fin : ∀ {us : List Value} {S : List ((D × PyData) × V)}, PySem.W.EachIs (fun v (b : (D × PyData) × V) => RelV b.2 v) us S → Vals (S.map fun b => b.2) us := by
      intro us S e
      induction e with
      | nil => exact .nil
      | cons r _ ih => exact .cons r ih
    exact fin go
end MP
/-! MiniPy 12g: sorted(.., key=lambda x: ..) as a rule. -/
namespace MP
open PySem PySem.Spec PyProof.Rows L2
variable [TabC]
theorem mapE_cons {f : Lo → List D → R D} {p : Nat} {L : Lo} {x : D} {r : List D} {M M2 : List D} {ks : List D} (h : mapE f p L (x :: r) M = .ok ks M2) : ∃ k M1 ks', f (L.set p (some x)) M = .ok k M1 ∧ mapE f p L r M1 = .ok ks' M2 ∧ ks = k :: ks' := by
  unfold mapE at h
  cases hf : f (L.set p (some x)) M with
  | ok k M1 =>
    rw [hf, R.bind_ok] at h
    cases hr : mapE f p L r M1 with
    | ok ks' M3 =>
      rw [hr, R.bind_ok] at h
      cases h
      exact ⟨k, M1, ks', rfl, hr, rfl⟩
    | exc c e M3 => rw [hr] at h; cases h
    | bad => rw [hr] at h; cases h
  | exc c e M1 => rw [hf] at h; cases h
  | bad => rw [hf] at h; cases h
/-- what is gathered, by data -/
def tSrc (K : PySem.W.Frag) (W : WX) (m : Lo → List D → R Wk) : TE := fun σ H Q => ∃ L φ M, LR K φ H L σ ∧ MH K φ H M ∧ PR K W σ φ H (m L M) fun w M' φ' H' => ∀ a xs, (w.items.length ≤ lim → Src K H' a xs) → Reps K φ' H' w.items xs → Q (.ref a) H'
section
variable {X : Cx} {W : WX} {cl : Cl} {a b : Expr} {ma mb : E} {pos : Pos}
theorem ms_seq (ha : PE X a (tE X.K W (evE cl ma))) : PE X a (tSrc X.K W (evI cl (.seq ma))) := by
  refine imp_PE ha fun σ H Q h => ?_
  obtain ⟨L, φ, M, lr, mh, p⟩ := h
  refine tE_use lr mh (PR.bind (show PR X.K W σ φ H ((evE cl ma L M).bind fun x M1 => ofO (seqS M1 x) M1) _ from p)) fun x M1 φ1 H1 v e1 m1 g1 r1 => ?_
  cases x with
  | tup l =>
    obtain ⟨q, xs, rfl, sq, r⟩ := r1.sqT
    exact (show PR X.K W σ φ1 H1 (.ok (Wk.mk l none) M1) _ from g1).here m1 q xs (fun _ => .inr (.inl sq)) r
  | lst l =>
    cases id r1 with
    | lst h1 h2 h3 => exact (show PR X.K W σ φ1 H1 (.ok (Wk.mk l none) M1) _ from g1).here m1 _ _ (fun _ => .inl (SqL.of h1)) h3
  | scr l =>
    cases id r1 with
    | scr h1 h3 => exact (show PR X.K W σ φ1 H1 (.ok (Wk.mk l none) M1) _ from g1).here m1 _ _ (fun _ => .inl h1.sq) h3
  | ref n =>
    replace g1 := show PR X.K W σ φ1 H1 (ofO (match M1[n]? with | some (.lst l) => some (Wk.mk l (some (n, .lst l))) | _ => none) M1) _ from g1
    split at g1
    · rename_i l hl
      obtain ⟨q, ys, rfl, sq, r⟩ := lst_at m1 r1 (show cont M1 (.ref n) = _ from hl)
      exact g1.here m1 q ys (fun _ => .inl (SqL.of sq)) r
    · exact False.elim g1
  | _ => exact False.elim g1
theorem cr_range1 : CallR X (.type "range") (fun vs H Q => ∃ j, vs = [V.int j] ∧ ∀ p, H p = none → Q (.ref p) (upd H p (.rng 0 j))) := by
  intro pins s σ H vs us Q I r h
  obtain ⟨j, rfl, q⟩ := h
  obtain ⟨u1, rfl, ri⟩ := vals1 r
  obtain ⟨t, rfl⟩ := ri
  exact call_range_1 ⟨.ref s.heap.objs.size, upd H s.heap.objs.size (.rng 0 j), I.laid (t' := s.toks + 1 + 1) (fun b o e => Heap.get?_push_of_some _ e) (Nat.le_refl _) ⟨s.toks, t, s.toks + 1, Heap.get?_push_size _ rfl⟩, rfl, q _ (I.hok.fresh (Nat.le_refl _))⟩
theorem src_rng {K : PySem.W.Frag} {φ : Ph} {H : Hp} {M : List D} {σ : L2.St} {i j : Int} {Q : VK} (m : MH K φ H M) (hk : rgOk i j = true)
    (g : PR K W σ φ H (.ok (Wk.mk (rgL i j) none) M) fun w M' φ' H' => ∀ a xs, (w.items.length ≤ lim → Src K H' a xs) → Reps K φ' H' w.items xs → Q (.ref a) H') : ∀ p, H p = none → Q (.ref p) (upd H p (.rng i j)) := fun p hp => by
  refine g φ _ (Ext.new hp) (m.new hp) p (rgV i j) (fun hl => .inr (.inr ⟨i, j, upd_same, ?_, rfl⟩)) (reps_rg _ _)
  refine rgOk_is ?_
  rw [Bool.and_eq_true]
  refine ⟨hk, decide_eq_true ?_⟩
  have e : (rgL i j).length = (j - i).toNat := by simp [rgL]
  rw [← e]
  exact Nat.le_trans hl (by decide)
theorem ms_range1 {p : Pos} (bn : BN X "range") (ha : PE X a (tE X.K W (evE cl ma))) (he : starEach [a] X.env = (false, eval a X.env) :: starEach [] X.env) :
    PE X (.Call (.Name "range" p) [a] [] pos) (tSrc X.K W (evI cl (.range (.lit (.int 0)) ma))) := by
  refine imp_PE (pe_callTy cr_range1 bn.gl bn.none boot_range (pa_cons ha pa_nil he) (by decide) (by decide) he rfl) fun σ H Q h => ?_
  obtain ⟨L, φ, M, lr, mh, p⟩ := h
  refine tE_use lr mh (PR.bind (show PR X.K W σ φ H ((evE cl ma L M).bind fun y M2 => match D.int 0, y with | .int i, .int j => if rgOk i j then .ok (Wk.mk (rgL i j) none) M2 else .bad | _, _ => .bad) _ from p)) fun d2 M2 φ2 H2 v2 e2 m2 g2 r2 => ?_
  cases d2 with
  | int j =>
    cases r2
    by_cases hk : rgOk 0 j = true
    · replace g2 := show PR X.K W σ φ2 H2 (if rgOk 0 j then .ok (Wk.mk (rgL 0 j) none) M2 else .bad) _ from g2
      rw [if_pos hk] at g2
      exact ⟨j, rfl, src_rng m2 hk g2⟩
    · replace g2 := show PR X.K W σ φ2 H2 (if rgOk 0 j then .ok (Wk.mk (rgL 0 j) none) M2 else .bad) _ from g2
      rw [if_neg hk] at g2
      exact False.elim g2
  | _ => exact False.elim g2
theorem ms_range2 {p : Pos} (bn : BN X "range") (ha : PE X a (tE X.K W (evE cl ma))) (hb : PE X b (tE X.K W (evE cl mb))) (he : starEach [a, b] X.env = (false, eval a X.env) :: starEach [b] X.env) (he2 : starEach [b] X.env = (false, eval b X.env) :: starEach [] X.env) :
    PE X (.Call (.Name "range" p) [a, b] [] pos) (tSrc X.K W (evI cl (.range ma mb))) := by
  refine imp_PE (pe_callTy cr_range2 bn.gl bn.none boot_range (pa_cons ha (pa_cons hb pa_nil he2) he) (by decide) (by decide) he (by rw [he2]; rfl)) fun σ H Q h => ?_
  obtain ⟨L, φ, M, lr, mh, p⟩ := h
  refine tE_use lr mh (PR.bind (show PR X.K W σ φ H ((evE cl ma L M).bind fun x M1 => (evE cl mb L M1).bind fun y M2 => match x, y with | .int i, .int j => if rgOk i j then .ok (Wk.mk (rgL i j) none) M2 else .bad | _, _ => .bad) _ from p)) fun d1 M1 φ1 H1 v1 e1 m1 g1 r1 => ?_
  refine tE_use (lr.ext e1) m1 (PR.bind g1) fun d2 M2 φ2 H2 v2 e2 m2 g2 r2 => ?_
  have r1' := Rep.ext e2 _ _ r1
  cases d1 with
  | int i =>
    cases d2 with
    | int j =>
      cases r1'
      cases r2
      by_cases hk : rgOk i j = true
      · replace g2 := show PR X.K W σ φ2 H2 (if rgOk i j then .ok (Wk.mk (rgL i j) none) M2 else .bad) _ from g2
        rw [if_pos hk] at g2
        exact ⟨i, j, rfl, src_rng m2 hk g2⟩
      · replace g2 := show PR X.K W σ φ2 H2 (if rgOk i j then .ok (Wk.mk (rgL i j) none) M2 else .bad) _ from g2
        rw [if_neg hk] at g2
        exact False.elim g2
    | _ => exact False.elim g2
  | _ => exact False.elim g2
end
section
variable {X : Cx} {W : WX} {cl : Cl} {mb : E} {mi : I}
theorem vals_push {vs : List V} {kA : Array Value} {v : V} {k : Value} (r : Vals vs kA.toList) (h : RelV v k) : Vals (vs ++ [v]) (kA.push k).toList := by
  rw [Array.toList_push]
  exact r.append (.cons h .nil)
/-- the run of list.sort: the keys are asked, the new list is filled -/
theorem sort_core {pins : List (Addr × Obj)} {σ : L2.St} {H : Hp} {s : Shared} {k i : Nat} {a : Arg} {body : Expr} {scope : Scope} {f c' l : Addr} {pm ctv : Value} {φ : Ph} {M M2 : List D} {L : Lo} {ds ks : List D} {xs : List V} {vs : List Value} {kz : List PyData} {Q : VK} {A : Around} {E' : Value → Shared → Prop}
    (I : Inv X pins σ H s) (LS : LamS1 X.env.scope scope a.arg) (hf : s.heap.get? f = some (PySem.W.kla_obj "<lambda>" (X.env.qual ++ "<lambda>") (oneArg a) body scope (cloFrom X.env.cells scope.names []) pm c' ctv)) (hfn : H f = none) (hfr : f ∉ frs X.stack) (hco : H c' = some (LamX.CodeO c' (X.env.qual ++ "<lambda>")))
    (hA : A.frames = X.A.frames) (hu : A.units + 50 < cLine) (hr : Room (k + 1) A) (hN : X.N.Nodup) (hi : X.N[i]? = some a.arg)
    (hbody : ∀ (A : Around) (outer : List Env) (s : Shared) (H : Hp) (Ex : XK) (f c' : Addr), Room k (A.deeper (LamX.lamEnv X scope s.heap.objs.size f c')) → PE (LamX.lamCx X A outer s H Ex scope f c') body (tE X.K (fun c d _ H => Ex c d H) (evE cl.lower mb)))
    (lr : LR X.K φ H L σ) (mh : MH X.K φ H M) (rds : Reps X.K φ H ds xs) (rv : Vals xs vs) (hrun : mapE (evE cl.lower mb) i L ds M = .ok ks M2) (hkz : toPDs ks = some kz) (hok : keysOk kz = true) (hlen : ds.length = kz.length) (hlim : ds.length ≤ lim)
    (hl : s.heap.get? l = some (seqObj "list" vs.toArray 0)) (fl : FpOk X pins H l) (hl0 : X.s_0.heap.objs.size ≤ l) (hlf : f ≠ l)
    (q : ∀ φ' H' ys, Ext φ H φ' H' → MH X.K φ' H' M2 → Reps X.K φ' H' (sortBy ds kz) ys → H' l = none → Q (.ref l) (upd H' l (.lst ys))) :
    wpAny (model X.prog X.w) A (ksk_tree l (.ref f) false) (fun fn s' => fn = .done (.ret .none) ∧ EP X pins σ Q (.ref l) s') E' s := by
  have hlx : ds.length = xs.length := rds.length
  have hvx : xs.length = vs.length := rv.length
  have hZ : vs.length ≤ sizeLine := by rw [← hvx, ← hlx]; exact hlim
  refine key_tree hl hZ fun kS e1 h2 hle hkp ha2 hkS2 => ?_
  have hkSl : kS ≠ l := fun z => by
    rw [z] at hle
    exact absurd (Nat.lt_of_lt_of_le (Heap.lt_size hl) hle) (Nat.lt_irrefl _)
  have hHk : H kS = none := I.hok.fresh hle
  have fk : FpOk X pins H kS := I.fpOk hle hHk
  have I2 : Inv X pins σ H { s with heap := h2 } := I.turnedL (t' := s.toks) (ch := [l]) (fun b o hb e => hkp b o (by simpa using hb) e) (fun b hb => by
    have e : b = l := by simpa using hb
    rw [e]
    exact fl)
  have fpH : ∀ {H' : Hp} {b : Addr}, FpOk X pins H b → H' b = none → FpOk X pins H' b := fun f n => ⟨n, f.2⟩
  have hf2 : h2.get? f = some (PySem.W.kla_obj "<lambda>" (X.env.qual ++ "<lambda>") (oneArg a) body scope (cloFrom X.env.cells scope.names []) pm c' ctv) := hkp f _ hlf hf
  have hfk : f ≠ kS := fun z => by
    rw [z] at hf
    exact absurd (Nat.lt_of_lt_of_le (Heap.lt_size hf) hle) (Nat.lt_irrefl _)
  refine key_rest (s := { s with heap := h2 }) hkSl hZ
    (fun n kA s' => ∃ Hi φi Mi kds kvs rest, Inv X pins σ Hi s' ∧ (∃ e, s'.heap.get? kS = some (seqObj "list" kA e)) ∧ s'.heap.get? l = some (seqObj "list" #[] e1) ∧ Hi l = none ∧ Hi kS = none ∧ (s'.heap.get? f = some (PySem.W.kla_obj "<lambda>" (X.env.qual ++ "<lambda>") (oneArg a) body scope (cloFrom X.env.cells scope.names []) pm c' ctv) ∧ Hi f = none) ∧
      Ext φ H φi Hi ∧ MH X.K φi Hi Mi ∧ kds.length = n ∧ Reps X.K φi Hi kds kvs ∧ Vals kvs kA.toList ∧ mapE (evE cl.lower mb) i L (ds.drop n) Mi = .ok rest M2 ∧ ks = kds ++ rest) ?hS ?h0 ?turn ?fin
  case hS =>
    rintro n kA s' ⟨Hi, φi, Mi, kds, kvs, rest, I', hk, hl', _, _, _, _, _, hn, rk, rvk, _, _⟩
    refine ⟨?_, hk, hl'⟩
    rw [← Array.length_toList, ← rvk.length, ← rk.length]
    exact hn
  case h0 => exact ⟨H, φ, M, [], [], ks, I2, ⟨0, hkS2⟩, ha2, fl.1, hHk, ⟨hf2, hfn⟩, Ext.refl, mh, rfl, .nil, .nil, hrun, rfl⟩
  case turn =>
    rintro n v kA s' hv ⟨Hi, φi, Mi, kds, kvs, rest, I', ⟨ek, hk⟩, hl', nl, nk, ⟨hf', nf⟩, ex, mi', hn, rk, rvk, hrest, eks⟩
    have hnv : n < vs.length := (List.getElem?_eq_some_iff.mp hv).1
    have hnd : n < ds.length := by omega
    have hd : ds.drop n = ds[n] :: ds.drop (n + 1) := List.drop_eq_getElem_cons hnd
    rw [hd] at hrest
    obtain ⟨kd, M1, rest', hb, hrest', rfl⟩ := mapE_cons hrest
    obtain ⟨xv, hx1, hx2⟩ := (Reps.ext ex _ _ rds).get (List.getElem?_eq_getElem hnd)
    obtain ⟨u, hu1, hu2⟩ := rv.get hx1
    rw [hv] at hu1
    cases hu1
    have pin2 : ∀ p ∈ (kS, seqObj "list" kA ek) :: (l, seqObj "list" #[] e1) :: (f, PySem.W.kla_obj "<lambda>" (X.env.qual ++ "<lambda>") (oneArg a) body scope (cloFrom X.env.cells scope.names []) pm c' ctv) :: pins, s'.heap.get? p.1 = some p.2 ∧ Hi p.1 = none ∧ p.1 ≠ X.env.locals ∧ p.1 ∉ X.fs ∧ ∀ v, p.2.data ≠ .cell v := fun p hp => by
      simp only [List.mem_cons] at hp
      rcases hp with rfl | rfl | rfl | hp
      · exact ⟨hk, nk, fk.2.1, fk.2.2.1, fun v z => by cases z⟩
      · exact ⟨hl', nl, fl.2.1, fl.2.2.1, fun v z => by cases z⟩
      · refine ⟨hf', nf, fun z => ?_, fun z => ?_, fun v z => by cases z⟩
        · obtain ⟨m, ⟨o, es, ep, ho, hd, _⟩, _⟩ := I'.loc
          replace z : f = X.env.locals := z
          rw [← z, hf'] at ho
          cases ho
          cases hd
        · replace z : f ∈ frs X.outer := z
          refine hfr ?_
          rcases I'.ok.stk with e | ⟨e, hfm⟩
          · rw [e]
            exact z
          · rw [e]
            unfold frs
            rw [List.filterMap_cons, hfm]
            exact List.mem_cons_of_mem _ z
      · exact I'.pin p (List.mem_append_right _ hp)
    refine thn (lam_call1 (tb := tE X.K (fun _ _ _ _ => False) (evE cl.lower mb)) (I'.pins_of pin2) LS hf' (ex.keep _ _ hco (fun _ z => LamX.codeO_ne _ z) fun z => ?_).1 bind_one hA hr hN hi hu2 (fun A outer s H f c' hr => hbody A outer s H (fun _ _ _ => False) f c' hr) (Q := fun w H' => ∃ φ', Ext φi Hi φ' H' ∧ MH X.K φ' H' M1 ∧ Rep X.K φ' H' kd w) ?_) fun kv s2 hq => ?_
    · obtain ⟨o, ho, hx⟩ := mh.there z
      rw [hco] at ho
      cases ho
      exact hx.2 _ _ rfl
    · refine ⟨L.set i (some ds[n]), φi, Mi, (lr.ext ex).set i hx2, mi', ?_⟩
      rw [hb]
      exact fun φ' H' e m v r => ⟨φ', e, m, r⟩
    · obtain ⟨w, H', I3, hw, φ', e3, m3, r3⟩ := hq
      obtain ⟨p1, p2, _⟩ := I3.pin (kS, seqObj "list" kA ek) (List.mem_append_right _ (by simp))
      obtain ⟨p3, p4, _⟩ := I3.pin (l, seqObj "list" #[] e1) (List.mem_append_right _ (by simp))
      obtain ⟨p5, p6, _⟩ := I3.pin (f, PySem.W.kla_obj "<lambda>" (X.env.qual ++ "<lambda>") (oneArg a) body scope (cloFrom X.env.cells scope.names []) pm c' ctv) (List.mem_append_right _ (by simp))
      refine ⟨⟨ek, p1⟩, fun h' e' n1 kp => ?_⟩
      have I4 : Inv X pins σ H' s2 := I3.pins_of fun p hp => I3.pin p (List.mem_append_right _ (by simp [hp]))
      have I5 : Inv X pins σ H' { s2 with heap := h' } := I4.turnedL (t' := s2.toks) (ch := [kS]) (fun b o hb e => kp b o (by simpa using hb) e) (fun b hb => by
        have e : b = kS := by simpa using hb
        rw [e]
        exact fpH fk p2)
      exact ⟨H', φ', M1, kds ++ [kd], kvs ++ [w], rest', I5, ⟨e', n1⟩, kp _ _ (Ne.symm hkSl) p3, p4, p2, ⟨kp _ _ hfk p5, p6⟩, ex.trans e3, m3, by simp [hn], (Reps.ext e3 _ _ rk).append (.cons r3 .nil), vals_push rvk hw, hrest', by rw [eks]; simp⟩
  case fin =>
    rintro kA s' ⟨Hi, φi, Mi, kds, kvs, rest, I', hk, hl', nl, nk, _, ex, mi', hn, rk, rvk, hrest, eks⟩
    rw [List.drop_of_length_le (by omega)] at hrest
    cases hrest
    rw [List.append_nil] at eks
    subst eks
    have hrd := reps_reads I' rk rvk hkz
    obtain ⟨k1, k2, k3⟩ := keysOk_is hok
    obtain ⟨ys, y1, y2⟩ := sort_each (Reps.ext ex _ _ rds) rv hlen k1 hrd
    refine ⟨_, PySem.W.SortsAt.data (s := s') hrd k1 k2 (fun d hd => by have := k3 d hd; omega), fun h' tk c kp hl2 => ⟨rfl, .ref l, upd Hi l (.lst ys), ?_, rfl, q φi Hi ys ex mi' y1 nl⟩⟩
    have I5 : Inv X pins σ Hi { s' with heap := h', toks := tk } := I'.turnedL (t' := tk) (ch := [l, kS]) (fun b o hb e => kp b o (fun z => hb (by simp [z])) (fun z => hb (by simp [z])) e) (fun b hb => by
      simp only [List.mem_cons, List.not_mem_nil, or_false] at hb
      rcases hb with rfl | rfl
      · exact fpH fl nl
      · exact fpH fk nk)
    refine inv_track I5 (fpH fl nl) hl0 ⟨?_, _, c, y2, hl2⟩
    rw [← y1.length]
    rw [sortBy_eq]
    rw [List.length_map, List.length_mergeSort, List.length_zip]
    exact Nat.le_trans (Nat.min_le_left _ _) hlim
theorem me_sortK {k i : Nat} {a : Arg} {arg body : Expr} {scope : Scope} {p lpos kpos pos : Pos}
    (hc : cl.hi = true → Room (k + 2) X.A ∧ ∀ (A : Around) (outer : List Env) (s : Shared) (H : Hp) (Ex : XK) (f c' : Addr), Room k (A.deeper (LamX.lamEnv X scope s.heap.objs.size f c')) → PE (LamX.lamCx X A outer s H Ex scope f c') body (tE X.K (fun c d _ H => Ex c d H) (evE cl.lower mb)))
    (lo : LamOk X) (calm : X.calm = true) (hu : X.A.units + 64 < cLine) (bn : BN X "sorted") (hN : X.N.Nodup) (hi : X.N[i]? = some a.arg) (hs : PE X arg (tSrc X.K W (evI cl mi))) (LS : LamS1 X.env.scope scope a.arg)
    (he : starEach [arg] X.env = (false, eval arg X.env) :: starEach [] X.env) : PE X (.Call (.Name "sorted" p) [arg] [⟨some "key", .Lambda (oneArg a) body scope lpos, kpos⟩] pos) (tN X.K W (evN cl (.sortK mi i mb))) := by
  refine ⟨fun pins s σ H Q I h => ?_⟩
  obtain ⟨L, φ, M, lr, mh, pr⟩ := h
  replace pr := PR.bind (show PR X.K W σ φ H ((evI cl mi L M).bind fun w M1 => if cl.hi then (if w.items.length ≤ lim then ((mapE (evE cl.lower mb) i L w.items M1).nx).bind fun ks M2 => ofO (sortD w.items ks) M2 else .bad) else .bad) _ from pr)
  refine wpAny_Call_Name_kw (ld_blt I bn.gl bn.none (show bootBuiltins "sorted" = some (.builtin "sorted") by decide +kernel) ?_ (by decide) (by decide))
  refine PyProof.Rows.callWith_kw (thn ((pa_cons hs pa_nil he).run pos pins s σ H (fun vs H1 => ∃ (φ1 : Ph) (M1 : List D) (w : Wk) (xs : List V) (x : Addr), vs = [V.ref x] ∧ Ext φ H φ1 H1 ∧ MH X.K φ1 H1 M1 ∧ (w.items.length ≤ lim → Src X.K H1 x xs) ∧ Reps X.K φ1 H1 w.items xs ∧
      PR X.K W σ φ1 H1 (if cl.hi then (if w.items.length ≤ lim then ((mapE (evE cl.lower mb) i L w.items M1).nx).bind fun ks M2 => ofO (sortD w.items ks) M2 else .bad) else .bad) _) I ⟨L, φ, M, lr, mh, pr.mono fun w M1 φ1 H1 e1 m1 g1 x xs h1 h2 => ⟨φ1, M1, w, xs, x, rfl, e1, m1, h1, h2, g1⟩⟩) fun us s1 hq => ?_) (by rw [he]; rfl) (by rw [he]; rfl) rfl rfl
  obtain ⟨vs, H1, I1, r1, φ1, M1, w, xs, x, rfl, e1, m1, src, rds, g1⟩ := hq
  obtain ⟨u, rfl, ru⟩ := vals1 r1
  obtain rfl : u = Value.ref x := ru
  by_cases hhi : cl.hi = true
  · rw [if_pos hhi] at g1
    by_cases hlim : w.items.length ≤ lim
    case neg =>
      rw [if_neg hlim] at g1
      exact False.elim g1
    rw [if_pos hlim] at g1
    obtain ⟨hr, hbody⟩ := hc hhi
    replace src := src hlim
    obtain ⟨c, P, l1, l2, l3, l4⟩ := lo.ex
    show wpAny _ _ (evalAll ((do let v ← eval (.Lambda (oneArg a) body scope lpos) X.env; standAt pos; pure v) :: (backToKw pos (keywordEach [] X.env)).map (·.2))) _ _ s1
    refine wpAny_evalAll_cons (wpAny_bind (LamX.lam_make2 I1 l2 l1 l3 l4 m1.tab rfl (LS.has I1.ok) fun f c' pm ctv H2 s2 I2 eN T2 hf hfn hfr hco => wpAny_bind (wpAny_standAt (wpAny_pure (wpAny_evalAll_nil ?_)))))
    obtain ⟨e2, m2⟩ := ext_n m1 eN T2
    have hA0 : X.A.handled = none := I2.ok.hd calm
    refine sorted_tree (kw := [(Str.ofString "key", .ref f)]) (ksk_s1 _ _) (fun _ => ksk_l1 _ _) (fun _ => ksk_t1 _ _) fun Q' go => ?_
    refine src_collect (A := X.A.in1) hA0 I2 (src.mono eN) fun vs h' tk rv hz kp => go vs h' tk hz kp fun E' => ?_
    have Ih : Inv X pins σ H2 { s2 with heap := h', toks := tk } := I2.kept (t' := tk) kp
    have fl : FpOk X pins H2 h'.objs.size := Ih.fpOk (Nat.le_refl _) (Ih.hok.fresh (Nat.le_refl _))
    have Ip : Inv X pins σ H2 { s2 with heap := h'.push (seqObj "list" vs.toArray 0), toks := tk } := Ih.kept (t' := tk) fun b o e => Heap.get?_push_of_some _ e
    have hf' := kp _ _ hf
    cases hrun : mapE (evE cl.lower mb) i L w.items M1 with
    | ok ks M2 =>
      rw [hrun, R.nx_ok, R.bind_ok] at g1
      cases hsd : sortD w.items ks with
      | none => rw [hsd] at g1; exact False.elim g1
      | some d =>
        rw [hsd, ofO_some] at g1
        unfold sortD at hsd
        rw [Option.bind_eq_some_iff] at hsd
        obtain ⟨kz, hkz, hsd⟩ := hsd
        split at hsd
        · rename_i hk
          cases hsd
          rw [Bool.and_eq_true, Bool.and_eq_true, decide_eq_true_eq, decide_eq_true_eq] at hk
          obtain ⟨k1, k2, k3⟩ := hk
          refine sort_core (k := k) (i := i) (mb := mb) (cl := cl) Ip LS (Heap.get?_push_of_some _ hf') hfn hfr hco rfl (by show X.A.units + 1 + 1 + 50 < cLine; omega) ⟨hA0, ?_, ?_⟩ hN hi hbody ((lr.ext e1).ext e2) m2 (Reps.ext e2 _ _ rds) rv hrun hkz k1 k2 hlim (Heap.get?_push_size _ rfl) fl Ih.sz (Nat.ne_of_lt (Heap.lt_size hf')) fun φ' H' ys ex mh' ry nl => ?_
          · have := hr.dp
            show X.A.depth + 3 * (k + 1) + 5 < _
            omega
          · have := hr.un
            show X.A.units + 1 + 1 + 16 * (k + 1) + 200 < _
            omega
          · exact g1 φ' H' (e2.trans ex) mh' _ _ (.lst ry) nl
        · cases hsd
    | exc c e M2 => rw [hrun] at g1; exact False.elim g1
    | bad => rw [hrun] at g1; exact False.elim g1
  · rw [if_neg hhi] at g1
    exact False.elim g1
end
end MP
/-! MiniPy D15: sorted(d), sorted(xs) of any data. -/
namespace MP
open PySem PySem.Spec PyProof.Rows L2
variable [TabC]
section
variable {prog : Program} {w : World} {A : Around} {E : Value → Shared → Prop}
theorem sorted_plain {s : Shared} {arg : Value} {Q : Value → Shared → Prop} (ha1 : argsOk "sorted" ⟨[arg], []⟩) (ha2 : ∀ x, argsOk "list.sort" ⟨[.ref x], []⟩)
    (hc : ∀ Q' : List Value → Shared → Prop, (∀ (vs : List Value) (h' : Heap) (tk : Nat), vs.length ≤ sizeLine → (∀ b o, s.heap.get? b = some o → h'.get? b = some o) →
        (∀ E', wpAny (model prog w) A.in1.in1 (Builtin.«list.sort» ⟨[.ref h'.objs.size], []⟩) (fun fn s' => fn = .done (.ret .none) ∧ Q (.ref h'.objs.size) s') E' { s with heap := h'.push (seqObj "list" vs.toArray 0), toks := tk }) → Q' vs { s with heap := h', toks := tk }) →
      wpAny (model prog w) A.in1 (collect arg) Q' E s) :
    wpAny (model prog w) A (call (.builtin "sorted") [arg] []) Q E s := by
  refine call_function_entry_kw kind_sorted plain_sorted entry_sorted ha1 ?_
  unfold Builtin.«sorted»
  refine wpAny_bind (m := checkCount "sorted" 1 1 _) (wpAny_pure ?_)
  refine wpAny_bind (hc _ fun vs h' tk hz kp go => ?_)
  refine wpAny_bind (wpAny_newList ?_ hz)
  refine wpAny_bind (wpAny_holding (wpAny_call_entry_kw slot_list_sort ⟨_, Heap.get?_push_size _ rfl, rfl⟩ entry_list_sort ?body (ha2 _)))
  case body =>
    refine wpAny_mono (go _) (fun fn s' hf => ?_) fun _ _ e => e
    obtain ⟨rfl, hq⟩ := hf
    exact ⟨_, rfl, wpAny_pure ⟨_, rfl, hq⟩⟩
end
section
variable {X : Cx}
def rSrtD (K : PySem.W.Frag) : List V → Hp → VK → Prop := fun xs H Q => ∃ (a : Addr) (vals : List V) (φ : Ph) (ds : List MP.D) (kz : List PyData), xs = [.ref a] ∧ (Src K H a vals ∨ KeysAt H a vals) ∧ Reps K φ H ds vals ∧ toPDs ds = some kz ∧ keysOk kz = true ∧ ds.length = kz.length ∧ ds.length ≤ lim ∧
  ∀ l ys, H l = none → Reps K φ H (sortBy ds kz) ys → Q (.ref l) (upd H l (.lst ys))
theorem call_srtD (hc : X.calm = true) (hu : X.A.units + 64 < cLine) : CallR X (.builtin "sorted") (rSrtD X.K) := by
  intro pins s σ H xs us Q I r h
  obtain ⟨a, vals, φ, ds, kz, rfl, src, rds, hkz, hok, hlen, hlim, q⟩ := h
  obtain ⟨u, rfl, rx⟩ := vals1 r
  cases rx
  have hA0 : X.A.handled = none := I.ok.hd hc
  refine sorted_plain (args_sorted1 _) (fun _ => args_list_sort _) fun Q' go => ?_
  have col : ∀ {E : Value → Shared → Prop} {R : List Value → Shared → Prop}, (∀ vs h' tk, Vals vals vs → vs.length ≤ sizeLine → (∀ b o, s.heap.get? b = some o → h'.get? b = some o) → R vs { s with heap := h', toks := tk }) → wpAny (model X.prog X.w) X.A.in1 (collect (.ref a)) R E s := by
    intro E R hR
    rcases src with src | ⟨o, es, ep, h1, h2, h3, h4⟩
    · exact src_collect (A := X.A.in1) hA0 I src fun vs h' tk rv hz kp => hR vs h' tk rv hz kp
    · refine PySem.W.kdu_collect (src_raw (es := es) (ep := ep) h2.low) hA0 (raw_of I h1 h2) h2.sz fun h' tk acc kp it => ?_
      have rv := keys_vals (d := a) h3 h4 it
      exact hR _ h' tk rv (by rw [← rv.length, ← h3]; exact h2.sz) kp
  refine col fun vs h' tk rv hz kp => go vs h' tk hz kp fun E' => ?_
  have Ih : Inv X pins σ H { s with heap := h', toks := tk } := I.kept (t' := tk) kp
  have nl : H h'.objs.size = none := Ih.hok.fresh (Nat.le_refl _)
  have fl : FpOk X pins H h'.objs.size := Ih.fpOk (Nat.le_refl _) nl
  have Ip : Inv X pins σ H { s with heap := h'.push (seqObj "list" vs.toArray 0), toks := tk } := Ih.kept (t' := tk) fun b o e => Heap.get?_push_of_some _ e
  have ho : (h'.push (seqObj "list" vs.toArray 0)).get? h'.objs.size = some (seqObj "list" vs.toArray 0) := Heap.get?_push_size _ rfl
  have Is : Inv X pins σ H { s with heap := PySem.W.sortingHeap (h'.push (seqObj "list" vs.toArray 0)) h'.objs.size vs, toks := tk } := Inv.turnedL (s := { s with heap := h'.push (seqObj "list" vs.toArray 0), toks := tk }) (t' := tk) (ch := [h'.objs.size]) Ip (fun b o hb e => PySem.W.sortingHeap_old (by simpa using hb) e) (fun b hb => by
    have e : b = h'.objs.size := by simpa using hb
    rw [e]
    exact fl)
  have hrd := reps_reads Is rds rv hkz
  obtain ⟨k1, k2, k3⟩ := keysOk_is hok
  obtain ⟨ys, y1, y2⟩ := sort_each rds rv hlen k1 hrd
  have S := PySem.W.SortsAt.data (prog := X.prog) (w := X.w) (A := X.A.in1.in1) (s := { s with heap := PySem.W.sortingHeap (h'.push (seqObj "list" vs.toArray 0)) h'.objs.size vs, toks := tk }) hrd k1 k2 (fun d hd => by
    have := k3 d hd
    show X.A.units + 1 + 1 + d.depth < cLine
    omega)
  refine PySem.W.list_sort_vals (s := { s with heap := h'.push (seqObj "list" vs.toArray 0), toks := tk }) ho S hz ⟨rfl, ?_⟩
  obtain ⟨c, hl2⟩ : ∃ c, (sortedHeap (h'.push (seqObj "list" vs.toArray 0)) h'.objs.size vs (PySem.W.sortVals (PySem.W.dataKind (PySem.W.sortingHeap (h'.push (seqObj "list" vs.toArray 0)) h'.objs.size vs) kz) false vs vs).toArray).get? h'.objs.size = some (seqObj "list" (PySem.W.sortVals (PySem.W.dataKind (PySem.W.sortingHeap (h'.push (seqObj "list" vs.toArray 0)) h'.objs.size vs) kz) false vs vs).toArray c) := sortedHeap_at ho
  have I5 : Inv X pins σ H { s with heap := sortedHeap (h'.push (seqObj "list" vs.toArray 0)) h'.objs.size vs (PySem.W.sortVals (PySem.W.dataKind (PySem.W.sortingHeap (h'.push (seqObj "list" vs.toArray 0)) h'.objs.size vs) kz) false vs vs).toArray, toks := tk } := Inv.turnedL (s := { s with heap := h'.push (seqObj "list" vs.toArray 0), toks := tk }) (t' := tk) (ch := [h'.objs.size]) Ip (fun b o hb e => by
    rw [sortedHeap_old (by simpa using hb) (Heap.lt_size e)]
    exact e) (fun b hb => by
    have e : b = h'.objs.size := by simpa using hb
    rw [e]
    exact fl)
  refine ⟨.ref h'.objs.size, upd H h'.objs.size (.lst ys), inv_track I5 fl ?_ ⟨?_, _, c, y2, hl2⟩, rfl, q _ ys nl y1⟩
  · exact Ih.sz
  · rw [← y1.length]
    rw [sortBy_eq]
    rw [List.length_map, List.length_mergeSort, List.length_zip]
    exact Nat.le_trans (Nat.min_le_left _ _) hlim
end
section
variable {X : Cx} {W : WX} {cl : Cl} {a : Expr} {ma : E} {pos : Pos}
theorem sortD_is {ds ks : List D} {d : D} (h : sortD ds ks = some d) : ∃ kz, toPDs ks = some kz ∧ keysOk kz = true ∧ ds.length = kz.length ∧ ds.length ≤ lim ∧ d = .lst (sortBy ds kz) := by
  unfold sortD at h
  rw [Option.bind_eq_some_iff] at h
  obtain ⟨kz, h1, h⟩ := h
  split at h
  · rename_i hk
    cases h
    rw [Bool.and_eq_true, Bool.and_eq_true, decide_eq_true_eq, decide_eq_true_eq] at hk
    exact ⟨kz, h1, hk.1, hk.2.1, hk.2.2, rfl⟩
  · cases h
theorem mn_sortedD {p : Pos} (hc : X.calm = true) (hu : X.A.units + 64 < cLine) (bn : BN X "sorted") (ha : PE X a (tE X.K W (evE cl ma))) (he : starEach [a] X.env = (false, eval a X.env) :: starEach [] X.env) : PE X (.Call (.Name "sorted" p) [a] [] pos) (tN X.K W (evN cl (.sortedD ma))) := by
  refine imp_PE (pe_callB (call_srtD hc hu) bn.gl bn.none (by decide +kernel) (pa_cons ha pa_nil he) (by decide) (by decide) he rfl) fun σ H Q h => ?_
  obtain ⟨L, φ, M, lr, mh, p⟩ := h
  refine tE_use lr mh (PR.bind (show PR X.K W σ φ H ((evE cl ma L M).bind fun x M1 => match cont M1 x with
      | some (.dct _ l) => ofO (sortD (l.map (·.1)) (l.map (·.1))) M1
      | some (.lst l) => ofO (sortD l l) M1
      | some (.tup l) => ofO (sortD l l) M1
      | _ => .bad) _ from p)) fun x M1 φ1 H1 v e1 m1 g1 r1 => ?_
  have fin : ∀ {ds : List D} {b : Addr} {vals : List V}, v = .ref b → (Src X.K H1 b vals ∨ KeysAt H1 b vals) → Reps X.K φ1 H1 ds vals → PR X.K W σ φ1 H1 (ofO (sortD ds ds) M1) (fun d M' φ' H' => ∀ o p, ObjIs X.K φ' H' d p o → H' p = none → Q (.ref p) (upd H' p o)) → rSrtD X.K [v] H1 Q := by
    intro ds b vals hv src rd g
    cases hs : sortD ds ds with
    | none => rw [hs] at g; exact False.elim g
    | some d =>
      rw [hs] at g
      obtain ⟨kz, h1, h2, h3, h4, rfl⟩ := sortD_is hs
      exact ⟨b, vals, φ1, ds, kz, by rw [hv], src, rd, h1, h2, h3, h4, fun l ys hl ry => g.here m1 _ l (.lst ry) hl⟩
  split at g1
  · rename_i e l hl
    obtain ⟨d, ks, rfl, kd, rk⟩ := keysAt_of m1 r1 hl
    exact fin rfl (.inr kd) rk g1
  · rename_i l hl
    obtain ⟨q, ys, rfl, sq, r⟩ := lst_at m1 r1 hl
    exact fin rfl (.inl (.inl (SqL.of sq))) r g1
  · rename_i l hl
    cases tup_at m1 r1 hl
    obtain ⟨q, ys, rfl, sq, r⟩ := r1.sqT
    exact fin rfl (.inl (.inr (.inl sq))) r g1
  · exact False.elim g1
end
end MP
/-! MiniPy D16: tuple(d). -/
namespace MP
open PySem PySem.Spec PyProof.Rows L2
variable [TabC]
theorem meets_tuple_dict (d : Addr) (es : Array DictEntry) (ep : Nat) (lo : (d == sysModules) = false) (hsz : es.size ≤ sizeLine) :
    Meets (Builtin.«tuple.__new__» ⟨[.type "tuple", .ref d], []⟩)
      (fun A R s => A.handled = none ∧ s.heap.DictRaw d es ep ∧ ∀ (h' : Heap) (tk : Nat) (acc : Array Value), (∀ b o, s.heap.get? b = some o → h'.get? b = some o) → ItemsOf (fun i v => ∃ hi : i < es.size, v = es[i].key) acc es.size →
        R (.ok (.ret (.ref h'.objs.size))) { s with heap := h'.push { cls := .type "tuple", data := .seq acc }, toks := tk }) :=
  .of_wp fun prog w A R s h => by
    obtain ⟨hh, hm, h⟩ := h
    have hsub := sub_tuple_self
    have hinit := init_tuple_lookup
    have hmh := madeHere_tuple
    have hT : s.TypeIs (.ref d) "dict" := hm.typeIs
    have hh1 : A.in1.handled = none := hh
    wp_walk using wpAny_typeOf hT, PySem.W.kdu_collect (src_raw lo) hh1 hm hsz
    intro h' tk acc hk hacc
    show wpAny _ _ (Builtin.Tuple.tupleExact acc.toList.toArray >>= fun v => ret v) _ _ _
    unfold Builtin.Tuple.tupleExact
    refine wpAny_bind (wpAny_newObj_type ?_ (show acc.toList.toArray.size ≤ sizeLine by simp only [Array.toArray_toList]; rw [hacc.1]; exact hsz))
    refine wpAny_pure ⟨_, rfl, ?_⟩
    have e : acc.toList.toArray = acc := by simp
    rw [e]
    exact h h' tk acc hk hacc
section
variable {X : Cx}
def rTupD : List V → Hp → VK → Prop := fun xs H Q => ∃ d ks, xs = [V.ref d] ∧ KeysAt H d ks ∧ ∀ l, H l = none → Q (.ref l) (upd H l (.tup ks))
theorem call_tupD (hc : X.calm = true) : CallR X (.type "tuple") rTupD := by
  intro pins s σ H xs us Q I r h
  obtain ⟨d, ks, rfl, ⟨o, es, ep, h1, h2, h3, h4⟩, q⟩ := h
  obtain ⟨u, rfl, rx⟩ := vals1 r
  cases rx
  refine callType_new F.called_tuple (by decide) (F.typeCall_tuple_1 _) (F.newCall_tuple_1 _) (fun obj => F.args_object_init_2 obj _) F.entry_tuple_new
    (meets_tuple_dict d es ep h2.low h2.sz) ⟨I.ok.hd hc, raw_of I h1 h2, fun h' tk acc kp it => ⟨⟨_, Heap.get?_push_size _ rfl, rfl⟩, ?_⟩⟩
  have rv := keys_vals (d := d) h3 h4 it
  have hz : ks.length ≤ sizeLine := by
    rw [← h3]
    exact h2.sz
  have I1 : Inv X pins σ H { s with heap := h', toks := tk } := I.kept (t' := tk) kp
  have nl : H h'.objs.size = none := I1.hok.fresh (Nat.le_refl _)
  have e1 : (h'.push { cls := .type "tuple", data := .seq acc }).get? h'.objs.size = some { cls := .type "tuple", data := .seq acc } := Heap.get?_push_size _ rfl
  exact ⟨.ref h'.objs.size, _, I1.laid (t' := tk) (o := .tup ks) (fun b o e => Heap.get?_push_of_some _ e) (Nat.le_refl _) ⟨hz, acc.toList, rv, ⟨_, e1, rfl, 0, by simp⟩⟩, rfl, q _ nl⟩
end
section
variable {X : Cx} {W : WX} {cl : Cl} {a : Expr} {ma : E} {pos : Pos}
theorem me_tupD {p : Pos} (hc : X.calm = true) (bn : BN X "tuple") (ha : PE X a (tE X.K W (evE cl ma))) (he : starEach [a] X.env = (false, eval a X.env) :: starEach [] X.env) : PE X (.Call (.Name "tuple" p) [a] [] pos) (tE X.K W (evE cl (.tupD ma))) := by
  refine imp_PE (pe_callTy (call_tupD hc) bn.gl bn.none (by decide +kernel) (pa_cons ha pa_nil he) (by decide) (by decide) he rfl) fun σ H Q h => ?_
  obtain ⟨L, φ, M, lr, mh, p⟩ := h
  refine tE_use lr mh (PR.bind (show PR X.K W σ φ H ((evE cl ma L M).bind fun x M1 => match cont M1 x with | some (.dct _ l) => .ok (D.tup (l.map (·.1))) M1 | _ => .bad) _ from p)) fun x M1 φ1 H1 v e1 m1 g1 r1 => ?_
  split at g1
  · rename_i e l hl
    obtain ⟨d, ks, rfl, kd, rk⟩ := keysAt_of m1 r1 hl
    exact ⟨d, ks, rfl, kd, fun q hq => end_tup m1 hq rk fun φ' H' v e m r => g1 φ' H' e m v r⟩
  · exact False.elim g1
end
end MP
/-! MiniPy D17: o[i], x = e. -/
namespace MP
open PySem PySem.Spec PyProof.Rows L2
variable [TabC]
section
variable {X : Cx} {W : WX} {cl : Cl} {a b c : Expr} {ma mb mc : E}
theorem s_asgIx (hu : X.A.units + 64 < cLine) (hwd : TabC.w = X.w) (hc : X.calm = true) {tpos py pt pos : Pos} {kt j : Nat} {y : Str} (hN : X.N.Nodup) (hj : X.N[j]? = some y) (hl : Loc X.env.scope y) (hfn : X.fn y = true ∨ X.env.scope.names.lookup y = some .local) (hv : PE X a (tE X.K W (evE cl ma))) (ho : PE X b (tE X.K W (evE cl mb))) (hi : PE X c (tE X.K W (evE cl mc)))
    (ha : ∀ v, assign (.Subscript b c tpos) X.env v = (do
      let ov ← holding [v] (eval b X.env)
      let iv ← holding [v, ov] (eval c X.env)
      standAt tpos
      holding [v, ov, iv] (setItem ov iv v)
      release [v, ov, iv] []))
    (hs : swapsWithSole [.Tuple [.Subscript b c tpos, .Name y py] kt pt] a pos.line X.env = pure false) (hw : swappedStores [.Tuple [.Subscript b c tpos, .Name y py] kt pt] a X.env = pure none) :
    PS X (.Assign [.Tuple [.Subscript b c tpos, .Name y py] kt pt] a pos) (tS X.K W (exS cl (.asgIx mb mc j ma))) := by
  refine imp_PS (ps_asg hv (pg_tup (n := 2) hc (pgs_cons (pg_sub ho hi (ps_setS hu hwd) ha) (pgs_cons (pg_name hN hj hl hfn) pgs_nil rfl) rfl) rfl rfl) hs hw rfl) fun De σ H h => ?_
  obtain ⟨L, φ, M, lr, mh, p⟩ := h
  refine tE_use lr mh (PRS.thn lr (show PRS X.K W φ H ((evE cl ma L M).then L fun d M1 => match d with
    | .tup [x, y] => (evE cl mb L M1).then L fun u M2 => (evE cl mc L M2).then L fun k M3 => (match setS M3 u k x with | some M4 => .next (L.set j (some y)) M4 | none => .bad)
    | _ => .bad) De from p)) fun d M1 φ1 H1 v e1 m1 g1 r1 => ?_
  split at g1
  · rename_i x z
    obtain ⟨q, xs, rfl, sq, r⟩ := r1.sqT
    cases r with
    | cons rx r =>
      cases r with
      | cons rz r =>
        cases r
        refine ⟨q, _, rfl, sq, rfl, _, _, rfl, ?_⟩
        refine tE_use (lr.ext e1) m1 (PRS.thn (lr.ext e1) g1) fun d2 M2 φ2 H2 v2 e2 m2 g2 r2 => ?_
        refine tE_use ((lr.ext e1).ext e2) m2 (PRS.thn ((lr.ext e1).ext e2) g2) fun d3 M3 φ3 H3 v3 e3 m3 g3 r3 => ?_
        cases hs : setS M3 d2 d3 x with
        | none => rw [hs] at g3; exact False.elim g3
        | some M4 =>
          rw [hs] at g3
          refine ⟨φ3, M3, d2, d3, x, M4, m3, Rep.ext e3 _ _ r2, r3, Rep.ext e3 _ _ (Rep.ext e2 _ _ rx), hs, fun H' e m => ?_⟩
          refine ⟨_, _, rfl, ?_⟩
          show gNil [] _ H' De.nx
          exact ⟨rfl, g3 φ3 H' _ e m ((((lr.ext e1).ext e2).ext e3).ext e |>.set j (Rep.ext e _ _ (Rep.ext e3 _ _ (Rep.ext e2 _ _ rz))))⟩
  · exact False.elim g1
end
end MP
/-! MiniPy D18: what a def promises when it is called at one place. -/
namespace MP
open PySem PySem.Spec PyProof.Rows L2
variable [TabC]
/-- the promise at one Around -/
structure FnAt (P : Program) (w : World) (K : PySem.W.Frag) (mg : Str → Option Value) (base : Heap) (CX : CXT) (A : Around) (f : Addr) (fd : FuncData) (ps : List Str) (sp : Sp) : Prop where
  len : ∀ vs H Q E, sp vs H Q E → vs.length = ps.length
  run : ∀ (outer : List Env) (s : Shared) (H : Hp) (args : Args) (us : List Value) (vs : List V) (Q : VK) (E : XK), Env0 P w K mg base A outer s H → BindsTo s fd args (ps.zip us) → Vals vs us → sp vs H Q E →
    codeAny (model P w) A (.call (.ref f) args) (CR CX outer P w H s Q E) s
theorem fnAt_of {P : Program} {w : World} {K : PySem.W.Frag} {mg : Str → Option Value} {base : Heap} {CX : CXT} {k : Nat} {A : Around} {f : Addr} {fd : FuncData} {ps : List Str} {sp : Sp} (F : FnOk P w K mg base CX k f fd ps sp) (hr : Room k A) : FnAt P w K mg base CX A f fd ps sp :=
  ⟨F.len, fun outer s H args us vs Q E => F.run A outer s H args us vs Q E hr⟩
section
variable {X : Cx} {W : WX} {cl : Cl} {CX : CXT} {f : Addr} {fd : FuncData} {ps : List Str} {sp : Sp} {E : L2.St → XK} {x : Str} {p pos : Pos} {e a : Expr} {es : List Expr} {t : TA} {ms : Es}
theorem run_fnA {pins : List (Addr × Obj)} {σ : L2.St} {H : Hp} {s : Shared} {Q : VK} {us : List Value} {vs : List V} (F : FnAt X.prog X.w X.K X.mg X.base CX X.A f fd ps sp) (hb : Binds X.K fd ps []) (hx : PassesAt CX X σ (E σ))
    (I : Inv X pins σ H s) (r : Vals vs us) (h : sp vs H Q (E σ)) : wpAny (model X.prog X.w) X.A (call (.ref f) us) (EP X pins σ Q) X.xe s := by
  have hl : us.length = ps.length := (r.length).symm.trans (F.len _ _ _ _ h)
  have b := hb s us I.kIn (by simpa using hl)
  rw [List.append_nil] at b
  refine wpAny_call (codeAny_mono (F.run X.stack s H ⟨us, []⟩ us vs Q (E σ) I.env0 b r h) fun r s' hq => ?_)
  cases r with
  | error e => exact hx pins H s e s' I hq
  | ok fl => cases fl with
    | ret u => exact I.after hq
    | _ => exact False.elim hq
theorem me_callA {n : Nat} (F : FnAt X.prog X.w X.K X.mg X.base (L2.CX X.prog X.w) X.A f fd ps (spG X.K (cl.call n))) (hg : Gl X x) (hm : X.mg x = some (.ref f)) (hk : PySem.W.keepIn X.K (.ref f) = true) (hb : Binds X.K fd ps [])
    (tk : Takes X W) (ha : PA X (a :: es) (tEs X.K W (evEs cl ms))) (hdb : (x == ("__debug__" : Str)) = false) (he : starEach (a :: es) X.env = (false, eval a X.env) :: starEach es X.env) (hpl : (backTo pos (starEach es X.env)).any (·.1) = false) :
    PE X (.Call (.Name x p) (a :: es) [] pos) (tE X.K W (evE cl (.call n ms))) := by
  have base : PE X (.Call (.Name x p) (a :: es) [] pos) (tCallS (spG X.K (cl.call n)) (WE W) (tEs X.K W (evEs cl ms))) := ⟨fun pins s σ H Q I h => by
    refine wpAny_Call_Name_kw (ld_glob I hg hm ?_ hdb)
    refine PySem.W.callWith_K (h₀ := X.base) I.ok.mod.kin hk (thn (ha.run pos pins s σ H _ I h) fun us s1 ⟨vs, H1, I1, r, q⟩ => ⟨I1.kIn, ?_⟩) he hpl
    exact run_fnA F hb (passAt tk σ) I1 r q⟩
  refine imp_PE base fun σ H Q h => ?_
  obtain ⟨L, φ, M, lr, mh, p⟩ := h
  refine tEs_use lr mh (PR.bind (show PR X.K W σ φ H ((evEs cl ms L M).bind fun vs M1 => cl.call n vs M1) _ from p)) fun ds M1 φ1 H1 vs e1 m1 g1 r1 => ?_
  refine ⟨φ1, M1, ds, m1, r1, ?_⟩
  cases hc : cl.call n ds M1 with
  | ok d M2 => rw [hc] at g1; exact g1
  | exc c e M2 => rw [hc] at g1; exact g1
  | bad => rw [hc] at g1; exact g1
end
/-- a def's promise at one Around, from its body there -/
theorem fnAt_mk {CX : CXT} {P : Program} {w : World} {K : PySem.W.Frag} {mg : Str → Option Value} {base : Heap} {k : Nat} {A : Around} {f : Addr} {nm ql : Str} {pr : Arguments} {bd : List Stmt} {sc : Scope} {dV kV doc pm cdv ct oc : Value} {an od : Option Addr} {osl : Array (Option Value)} {N ps : List Str} {sp : Sp}
    (hr : Room (k + 1) A) (lk : K.lookup f = some ⟨oc, od, .func (PySem.W.fnOf nm ql pr bd sc dV kV doc pm an cdv ct), osl⟩) (hcd : PySem.W.codeIn K cdv ql = true) (S : FnScope N ps sc) (len : ∀ vs H Q E, sp vs H Q E → vs.length = ps.length)
    (hb : ∀ (outer : List Env) (s : Shared) (H : Hp) (vs : List V) (Q : VK) (E : XK), Room k (A.deeper (envOfC ql sc s.heap.objs.size f cdv)) → sp vs H Q E →
      ∃ t, PSs (cxOf CX P w K mg base N ql sc f cdv A outer s H E) bd t ∧ t { nx := fun _ H' => Q .non H', rt := Q } (L2.start N vs) H) :
    FnAt P w K mg base CX A f (PySem.W.fnOf nm ql pr bd sc dV kV doc pm an cdv ct) ps sp where
  len := len
  run := fun outer s H args us vs Q E e0 bt r h => by
    have hk : K.In s.heap := e0.mod.kin.keeps fun b o e => (e0.bs b o e).1
    have hn : s.heap.NoLimit := e0.mod.nolimit.keeps fun b o e => (e0.bs b o e).1
    have hl : vs.length = ps.length := len _ _ _ _ h
    have kinds : ∀ y ∈ ps.zip us, sc.names.lookup y.1 = some .local ∨ (sc.names.lookup y.1 = some .cell ∧ ((cellsFrom (s.heap.objs.size + 1) sc.names []).lookup y.1).isSome = true) := by
      intro ⟨z, v⟩ hy
      exact (S.par z (List.of_mem_zip hy).1).imp id fun q => ⟨q, PySem.W.cellsFrom_some _ _ _ (.inl q)⟩
    refine codeAny_call_function hr.depth (hk _ _ lk) rfl S.co S.gen rfl (PySem.W.codeRec_of hk hcd) (bt _ _ _ _ ?_)
    refine wpAny_newFunctionEnv_cells S.kind kinds fun env he s1 x => ?_
    subst he
    refine ⟨hn.keeps x.toInCall.keep, codeAny_func ?_⟩
    obtain ⟨t, ht, hq⟩ := hb outer s H vs Q E (hr.deeper _) h
    refine wpAny_mono (ht.run [] s1 (L2.start N vs) H _ (inv_start S hr.hd e0 hl r x) hq) (fun fl s' hs => ?_) fun _ _ z => z
    cases fl with
    | ret u =>
      obtain ⟨v, σ', H', J, rv, q⟩ := hs
      exact ⟨v, H', J.os, J.bare, J.base, J.hok, rv, q⟩
    | next =>
      obtain ⟨σ', H', J, q⟩ := hs
      exact ⟨V.non, H', J.os, J.bare, J.base, J.hok, rfl, q⟩
    | brk =>
      obtain ⟨_, _, _, q⟩ := hs
      exact False.elim q
    | cont =>
      obtain ⟨_, _, _, q⟩ := hs
      exact False.elim q
end MP
/-! MiniPy D19: a def keeps its promise at one place. -/
namespace MP
open PySem PySem.Spec PyProof.Rows L2
variable [TabC]
theorem spG_len {K : PySem.W.Frag} {k n fuel m nl : Nat} {T : List FD} {kp pu : Bool} {mss : Ss} (hT : T[n]? = some ⟨kp, m, nl, mss, pu⟩) (vs : List V) (H : Hp) (Q : VK) (E : XK) (h : spG K (runF T fuel (k + 1) n) vs H Q E) : vs.length = m := by
  obtain ⟨φ, M, args, m', r, p⟩ := h
  rw [runF_succ] at p
  unfold runB at p
  rw [hT] at p
  by_cases hl : args.length = m
  · rw [← r.length]
    exact hl
  · replace p := show PR K (fun c d _ H => E c d H) [] φ H (if args.length = m then (if pu then (if bels 0 args then finP M (fin false [] (exSs (clOf T fuel k) mss (args.map some ++ List.replicate (nl - m) none) [])) else .bad) else fin kp M (exSs (clOf T fuel k) mss (args.map some ++ List.replicate (nl - m) none) M)) else .bad) _ from p
    rw [if_neg hl] at p
    exact False.elim p
/-- the promise; b: only where no object is being shown -/
structure FnB (P : Program) (w : World) (K : PySem.W.Frag) (mg : Str → Option Value) (base : Heap) (CX : CXT) (b : Bool) (k : Nat) (f : Addr) (fd : FuncData) (ps : List Str) (sp : Sp) : Prop where
  len : ∀ vs H Q E, sp vs H Q E → vs.length = ps.length
  at_ : ∀ A : Around, Room k A → (b = true → A.guards = some []) → FnAt P w K mg base CX A f fd ps sp
theorem FnB.ok {P : Program} {w : World} {K : PySem.W.Frag} {mg : Str → Option Value} {base : Heap} {CX : CXT} {k : Nat} {f : Addr} {fd : FuncData} {ps : List Str} {sp : Sp} {b : Bool} (F : FnB P w K mg base CX b k f fd ps sp) (hb : b = false) : FnOk P w K mg base CX k f fd ps sp :=
  ⟨F.len, fun A outer s H args us vs Q E hr => (F.at_ A hr (fun z => by rw [hb] at z; cases z)).run outer s H args us vs Q E⟩
theorem fnGA {P : Program} {w : World} {K : PySem.W.Frag} {mg : Str → Option Value} {base : Heap} {x : Str} {st : Stmt} {f : Addr} {fd : FuncData} {N ps : List Str} {k n fuel : Nat} {T : List FD} {kp pu : Bool} {mss : Ss} {A : Around} (hr : Room (k + 1) A) (F : Fun K x x st f fd) (S : FnScope N ps (defScope st)) (hT : T[n]? = some ⟨kp, ps.length, N.length, mss, pu⟩)
    (hb : ∀ (cdv : Value) (outer : List Env) (s : Shared) (H : Hp) (E : XK), (∃ (oc : Value) (od : Option Addr) (kV doc pm : Value) (an : Option Addr) (ct : Value) (osl : Array (Option Value)), K.lookup f = some ⟨oc, od, .func (PySem.W.fnOf x x (defArgs st) (defBody st) (defScope st) .none kV doc pm an cdv ct), osl⟩) → Room k (A.deeper (envOfC x (defScope st) s.heap.objs.size f cdv)) →
      PSs (cxOf (L2.CX P w) P w K mg base N x (defScope st) f cdv A outer s H E) (defBody st) (tS K (fun c d _ H => E c d H) (exSs (clOf T fuel k) mss))) :
    FnAt P w K mg base (L2.CX P w) A f fd ps (spG K (runF T fuel (k + 1) n)) := by
  have hpl : ps.length ≤ N.length := by have := congrArg List.length S.pre; rw [List.length_take] at this; omega
  obtain ⟨oc, od, kV, doc, pm, an, cdv, ct, osl, rfl, lk, hcd⟩ := F.ex
  refine fnAt_mk hr lk hcd S (fun vs H Q E h => ?_) fun outer s H vs Q E hr h => ⟨_, hb cdv outer s H E ⟨oc, od, kV, doc, pm, an, ct, osl, lk⟩ hr, ?_⟩
  · exact spG_len hT vs H Q E h
  · obtain ⟨φ, M, args, m, r, p⟩ := h
    rw [runF_succ] at p
    exact (body_ok hT hpl m r p).2
end MP
/-! MiniPy D20: repr of lists and tuples of plain data. -/
namespace MP
open PySem PySem.Spec PyProof.Rows L2
variable [TabC]
mutual
theorem toPD_noDict : ∀ (d : D) (pd : PyData), toPD d = some pd → pd.hasDict = false
  | .non, _, h => by cases h; rfl
  | .bl _, _, h => by cases h; rfl
  | .int _, _, h => by cases h; rfl
  | .str _, _, h => by cases h; rfl
  | .tup l, pd, h => by
    simp only [toPD, Option.map_eq_some_iff] at h
    obtain ⟨q, h1, rfl⟩ := h
    simpa [PyData.hasDict] using toPDs_noDict l q h1
  | .lst l, pd, h => by
    simp only [toPD, Option.map_eq_some_iff] at h
    obtain ⟨q, h1, rfl⟩ := h
    simpa [PyData.hasDict] using toPDs_noDict l q h1
  | .scr _, _, h => by cases h
  | .dct _ _, _, h => by cases h
  | .ref _, _, h => by cases h
  | .ty _, _, h => by cases h
  | .fn _, _, h => by cases h
theorem toPDs_noDict : ∀ (l : List D) (q : List PyData), toPDs l = some q → PyData.hasDictAll q = false
  | [], _, h => by cases h; rfl
  | d :: r, _, h => by
    simp only [toPDs, Option.bind_eq_some_iff, Option.map_eq_some_iff] at h
    obtain ⟨p, h1, q, h2, rfl⟩ := h
    simp [PyData.hasDictAll, toPD_noDict d p h1, toPDs_noDict r q h2]
end
def rShw (K : PySem.W.Frag) : List V → Hp → VK → Prop := fun xs H Q => ∃ v, xs = [v] ∧ ((∃ b, v = .bl b ∧ Q (.str (if b then "True" else "False")) H) ∨ ∃ a pd, v = .ref a ∧ Dp K H v pd ∧ pd.hasDict = false ∧ pd.showable = true ∧ pd.depth ≤ 8 ∧ pd.shown.length ≤ sizeLine ∧ Q (.str pd.shown) H)
section
variable {X : Cx} {W : WX} {cl : Cl} {a : Expr} {ma : E} {pos : Pos}
theorem call_shw (hg : X.A.guards = some []) (hu : X.A.units + 64 < cLine) : CallR X (.builtin "repr") (rShw X.K) := by
  intro pins s σ H xs us Q I r h
  obtain ⟨v, rfl, h⟩ := h
  obtain ⟨u, rfl, ru⟩ := vals1 r
  rcases h with ⟨b, rfl, q⟩ | ⟨a, pd, rfl, dp, h1, h2, h3, h4, q⟩
  · cases ru
    exact PySem.P.repr_of_bool ⟨.str _, H, I.tok _, ⟨_, rfl⟩, q⟩
  · obtain ⟨as, rd⟩ := Dp.reads I _ _ _ dp ru
    cases ru
    refine repr_of_reads' rd h2 (PyData.noDict_hsm h1) hg (by omega) (fun _ _ e => e) (fun h' u tk hk => ?_) h4
    exact ⟨.str _, H, I.kept hk, ⟨_, rfl⟩, q⟩
theorem me_shw {p : Pos} (hg : X.A.guards = some []) (hu : X.A.units + 64 < cLine) (bn : BN X "repr") (ha : PE X a (tE X.K W (evE cl ma))) (he : starEach [a] X.env = (false, eval a X.env) :: starEach [] X.env) : PE X (.Call (.Name "repr" p) [a] [] pos) (tE X.K W (evE cl (.shw ma))) := by
  refine imp_PE (pe_callB (call_shw hg hu) bn.gl bn.none (by decide +kernel) (pa_cons ha pa_nil he) (by decide) (by decide) he rfl) fun σ H Q h => ?_
  obtain ⟨L, φ, M, lr, mh, p⟩ := h
  refine tE_use lr mh (PR.bind (show PR X.K W σ φ H ((evE cl ma L M).bind fun x M1 => ofO (shwS M1 x) M1) _ from p)) fun x M1 φ1 H1 v e1 m1 g1 r1 => ?_
  cases hs : shwS M1 x with
  | none => rw [hs] at g1; exact False.elim g1
  | some d =>
    rw [hs] at g1
    unfold shwS at hs
    split at hs
    · cases hs
      cases r1
      exact ⟨_, rfl, .inl ⟨_, rfl, g1.here m1 _ (.str _)⟩⟩
    · split at hs
      · rename_i pd hpd
        obtain ⟨hk, hs⟩ := Option.ite_none_right_eq_some.mp hs
        cases hs
        simp only [Bool.and_eq_true, decide_eq_true_eq] at hk
        obtain ⟨⟨k1, k2⟩, k3, k4⟩ := hk
        simp only [Option.bind_eq_some_iff] at hpd
        obtain ⟨x', hf, hp⟩ := hpd
        have dp := rep_dp (rep_frz m1 r1 hf) hp
        have nd := toPD_noDict _ _ hp
        cases dp <;> first | (cases k1; done) | skip
        · exact ⟨_, rfl, .inr ⟨_, _, rfl, .lst ‹_› ‹_›, nd, k2, k3, k4, g1.here m1 _ (.str _)⟩⟩
        · exact ⟨_, rfl, .inr ⟨_, _, rfl, .tup ‹_› ‹_›, nd, k2, k3, k4, g1.here m1 _ (.str _)⟩⟩
      · cases hs
end
end MP
/-! MiniPy 13: from the syntax tree into the small language. -/
namespace MP
open PySem PySem.Spec PyProof.Rows L2

structure Ctx where
  N : List Str
  sc : Scope
  raw : Option Scope := none
  defs : List (Str × Nat) := []
  cons : List (Str × D) := []
  blts : List Str := []
  mu : List (Nat × Nat) := []
  exs : List Str := []
  xvs : List (Str × Str) := []
  mets : List (Str × MetI) := []
  lam : Bool := false
  dk : List (Nat × Nat) := []
  gd : Bool := false
  gds : List Str := []

/-! ### the translation -/
def ixOf : List Str → Str → Option Nat
  | [], _ => none
  | y :: r, x => if y = x then some 0 else (ixOf r x).map (· + 1)
theorem ixOf_get : ∀ {N : List Str} {x : Str} {i : Nat}, ixOf N x = some i → N[i]? = some x
  | [], _, _, h => by cases h
  | y :: r, x, i, h => by
    unfold ixOf at h
    split at h
    · rename_i e
      cases h
      rw [e]
      rfl
    · rw [Option.map_eq_some_iff] at h
      obtain ⟨j, h1, rfl⟩ := h
      simpa using ixOf_get h1
def notStar : Expr → Bool | .Starred _ _ => false | _ => true
def notSet : Expr → Bool | .Set _ _ _ => false | _ => true
def isComp : Expr → Bool | .ListComp .. => true | .SetComp .. => true | .DictComp .. => true | _ => false
def isTup : Expr → Bool | .Tuple _ _ _ => true | _ => false
def isSlice : Expr → Bool | .Slice _ _ _ _ => true | _ => false
def simpleO : Expr → Bool | .Name _ _ => true | .Subscript _ _ _ => true | _ => false
def noStar (es : List Expr) : Bool := es.all notStar
def kindIs (C : Ctx) (x : Str) (k : NameKind) : Bool := decide (C.sc.names.lookup x = some k)
def okName (x : Str) : Bool := !(x == ("__debug__" : Str)) && !(x == ("__classdict__" : Str))
def tyName (x : Str) : Option String :=
  if x = ("int" : Str) then some "int" else if x = ("bool" : Str) then some "bool" else if x = ("tuple" : Str) then some "tuple" else
  if x = ("list" : Str) then some "list" else if x = ("dict" : Str) then some "dict" else if x = ("str" : Str) then some "str" else none
def bltIn (C : Ctx) (x : Str) : Bool := C.blts.contains x && kindIs C x .globalImplicit
def cName (C : Ctx) (x : Str) : E :=
  if okName x then
    if kindIs C x .local || (kindIs C x .cell || kindIs C x .free) then match ixOf C.N x with | some i => .var i | none => .bad
    else if kindIs C x .globalImplicit then match C.cons.lookup x with
      | some d => .lit d
      | none => if C.blts.contains x then match tyName x with | some n => .lit (.ty n) | none => .bad else .bad
    else .bad
  else .bad
def cConst : Const → E
  | .none => .lit .non
  | .bool b => .lit (.bl b)
  | .int i => .lit (.int i)
  | .str x => .lit (.str x)
  | _ => .bad
def bopOf : Operator → Option Bop
  | .Add => some .add | .Sub => some .sub | .Mult => some .mul | .FloorDiv => some .fdiv | .Mod => some .mod | .Pow => some .pow
  | _ => none
def copOf : CmpOp → Cop
  | .Eq => .eq | .NotEq => .ne | .Lt => .lt | .LtE => .le | .Gt => .gt | .GtE => .ge | .In => .inn | .NotIn => .nin | .Is => .isx | .IsNot => .isn
def cB (r : Expr → E) (o : PySem.BoolOp) : List Expr → E
  | [] => .bad
  | [e] => r e
  | e :: e' :: es => match o with | .And => .andE (r e) (cB r o (e' :: es)) | .Or => .orE (r e) (cB r o (e' :: es))
def cCmp (r : Expr → E) (a : Expr) (ops : List CmpOp) (bs : List Expr) : E := match ops, bs with
  | [o], [b] => if behindInMarks (cpOf (copOf o)) b then .bad else .cmp (copOf o) (r a) (r b)
  | [o, o'], [b, c] => if lastMarks [cpOf (copOf o), cpOf (copOf o')] [b, c] then .bad else .chain (copOf o) (copOf o') (r a) (r b) (r c)
  | _, _ => .bad
def cEs (r : Expr → E) : List Expr → Es
  | [] => .nil
  | e :: es => .cons (r e) (cEs r es)
/-- .. with stars -/
def cEsS (r : Expr → E) : List Expr → Es
  | [] => .nil
  | e :: es => match e with
    | .Starred a _ => .star (r a) (cEsS r es)
    | e => .cons (r e) (cEsS r es)
def dkAt (C : Ctx) (p : Pos) : Bool := C.dk.contains (p.line, p.col)
/-- the pairs of a dict display -/
def cPairs (r : Expr → E) : List (Option Expr) → List Expr → Option (List (E × E))
  | [], [] => some []
  | some k :: ks, v :: vs => (cPairs r ks vs).map fun ps => (r k, r v) :: ps
  | _, _ => none
def fz (C : Ctx) (p : Pos) : Bool := !(C.mu.contains (p.line, p.col))
def cO (r : Expr → E) : Option Expr → Es
  | none => .nil
  | some e => .cons (r e) .nil
/-- range(..) -/
def rgArgs (C : Ctx) : Expr → List Expr
  | .Call (.Name x _) args [] _ => if x = ("range" : Str) ∧ bltIn C x = true ∧ noStar args = true then args else []
  | _ => []
def cListOf (C : Ctx) (r : Expr → E) (p : Pos) (a : Expr) : E := match rgArgs C a with
  | [b] => .new (fz C p) (.listRg (.lit (.int 0)) (r b))
  | [b, c] => .new (fz C p) (.listRg (r b) (r c))
  | _ => .new (fz C p) (.listOf (r a))
def allBlt : List Blt := [.len, .abs, .int, .max, .min, .sum, .all, .any, .isinst, .repr, .tuple]
def bltOf (x : Str) : Option Blt := allBlt.find? fun b => decide (nmOf b = x)
def allMth : List Mth := [.append, .extend, .count, .index, .insert]
def mthOf (x : Str) : Option Mth := allMth.find? fun b => decide (mnOf b = x)
def cNameCall (C : Ctx) (r : Expr → E) (p : Pos) (x : Str) (a : Expr) (as : List Expr) : E :=
  if (x == ("__debug__" : Str)) || !noStar (a :: as) then .bad else
  match C.defs.lookup x with
  | some n => if kindIs C x .globalImplicit && (!C.gds.contains x || C.gd) then .call n (cEs r (a :: as)) else .bad
  | none => if bltIn C x then
      if x = ("list" : Str) then (match as with | [] => if dkAt C p then .new (fz C p) (.listD (r a)) else cListOf C r p a | _ => .bad) else
      if x = ("sorted" : Str) then (match as with | [] => if dkAt C p then .new (fz C p) (.sortedD (r a)) else .new (fz C p) (.sorted (r a)) | _ => .bad) else
      if x = ("tuple" : Str) ∧ dkAt C p = true then (match as with | [] => .tupD (r a) | _ => .bad) else
      if x = ("repr" : Str) ∧ C.gd = true then (match as with | [] => .shw (r a) | _ => .bad) else
      match bltOf x with | some b => .blt b (cEs r (a :: as)) | none => .bad
    else if kindIs C x .local || (kindIs C x .cell || kindIs C x .free) then
      if x == ("__classdict__" : Str) then .bad else match ixOf C.N x with | some i => .callv (.var i) (cEs r (a :: as)) | none => .bad
    else .bad
def cMethCall (C : Ctx) (r : Expr → E) (p : Pos) (o : Expr) (m : Str) (ap : Pos) (a : Expr) (as : List Expr) : E :=
  if simpleO o && (noStar (a :: as) && (ap.endLine == p.line && decide ((a :: as).length < 28))) then match mthOf m with
    | some k => .mth k (r o) (cEs r (a :: as))
    | none => (match as with
      | [] => if m = ("update" : Str) then .updt (r o) (r a) else .bad
      | [b] => if m = ("setdefault" : Str) then .setd (r o) (r a) (r b) else .bad
      | _ => .bad)
  else .bad
def cCall (C : Ctx) (r : Expr → E) (p : Pos) (f : Expr) (args : List Expr) (kws : List Keyword) : E := match kws, args with
  | [], a :: as => (match f with
    | .Name x _ => cNameCall C r p x a as
    | .Attribute o m ap => cMethCall C r p o m ap a as
    | _ => .bad)
  | _, _ => .bad
def cSeqI (C : Ctx) (r : Expr → E) (tup : Bool) (it : Expr) : I := match rgArgs C it with
  | [b] => .range (.lit (.int 0)) (r b)
  | [b, c] => .range (r b) (r c)
  | _ => match it with
    | .Call (.Name x _) args kws _ => if tup && (bltIn C x && noStar args) then
        (match kws, args with
        | [], [a] => if x = ("enumerate" : Str) then .enum (r a) else .seq (r it)
        | [], [a, b] => if x = ("zip" : Str) then .zip (r a) (r b) else .seq (r it)
        | _, _ => .seq (r it))
      else .seq (r it)
    | .Call (.Attribute o m ap) [] [] p => if simpleO o && (ap.endLine == p.line) then
        (if m = ("items" : Str) then (if tup then .items (r o) else .seq (r it)) else if m = ("values" : Str) then .vals (r o) else .seq (r it)) else .seq (r it)
    | .Name _ p => if dkAt C p then .keys (r it) else .seq (r it)
    | _ => .seq (r it)
def fnB (C : Ctx) (x : Str) : Bool := match C.raw with
  | none => true
  | some s => s.names.lookup x == some .cell
def cNm (C : Ctx) (x : Str) : Option Nat := if (kindIs C x .local || kindIs C x .cell) && (fnB C x || kindIs C x .local) then ixOf C.N x else none
def cNms (C : Ctx) : List Expr → Option (List Nat)
  | [] => some []
  | .Name x _ :: r => (cNm C x).bind fun i => (cNms C r).map fun is => i :: is
  | _ :: _ => none
def cTg (C : Ctx) : Expr → Option Tg
  | .Name x _ => (cNm C x).map .name
  | .Tuple es _ _ => (cNms C es).map .tup
  | _ => none
def ownOf (N : List Str) (scope : Scope) : List (Str × Nat) := scope.names.filterMap fun y => if y.2 == .local || y.2 == .cell then (ixOf N y.1).map fun i => (y.1, i) else none
def Ctx.blk (C : Ctx) (scope : Scope) : Ctx := { C with sc := relS scope C.sc, raw := some scope, lam := false }
def Ctx.lamb (C : Ctx) (scope : Scope) : Ctx := { C with sc := scope, raw := some { kind := .function, names := [], isGenerator := false, isCoroutine := false }, lam := false, gd := false }
def isNoArgs : Arguments → Bool
  | ⟨[], [], none, [], [], none, []⟩ => true
  | _ => false
def cLam (C : Ctx) (rE : Ctx → Expr → E) (f : Expr) (args : List Expr) (kws : List Keyword) : Option E := match kws, f, args with
  | [], .Name x _, [.Lambda ps body scope _] => (match C.mets.lookup x with
    | some mi => if C.lam && (kindIs C x .globalImplicit && (!(x == ("__debug__" : Str)) && (isNoArgs ps && LamX.lamSB C.sc scope))) then some (.met mi.tag mi.hs (rE (C.lamb scope) body)) else none
    | none => none)
  | _, _, _ => none
def one1 : Arguments → Option Arg
  | ⟨[], [a], none, [], [], none, []⟩ => some a
  | _ => none
/-- what is gathered -/
def cSrc (C : Ctx) (r : Expr → E) (a : Expr) : I := match rgArgs C a with
  | [b] => .range (.lit (.int 0)) (r b)
  | [b, c] => .range (r b) (r c)
  | _ => .seq (r a)
/-- sorted(.., key=lambda x: ..) -/
def cSortK (C : Ctx) (rE : Ctx → Expr → E) (f : Expr) (args : List Expr) (kws : List Keyword) : Option N := match f, args, kws with
  | .Name x _, [a], [⟨some k, .Lambda ps body scope _, _⟩] => if x = ("sorted" : Str) ∧ k = ("key" : Str) ∧ (C.lam && (bltIn C x && notStar a)) = true then
      match one1 ps with
      | some p => if lamS1B C.sc scope p.arg then (ixOf C.N p.arg).map fun i => .sortK (cSrc C (rE C) a) i (rE (C.lamb scope) body) else none
      | none => none
    else none
  | _, _, _ => none
def cIfs (r : Expr → E) : List Expr → Option Es
  | [] => some .nil
  | [c] => some (.cons (r c) .nil)
  | _ => none
def cLC (C : Ctx) (rE rT : Ctx → Expr → E) (elt : Expr) (gens : List Comprehension) (scope : Scope) : Option N := match gens with
  | [g] => if g.is_async = 0 ∧ blkC C.N C.sc scope (ownOf C.N scope) = true ∧ notSet g.iter = true then
      (cTg (C.blk scope) g.target).bind fun t => if (tgIx t).all (fun i => ((ownOf C.N scope).map (·.2)).contains i) then
        (cIfs (rT (C.blk scope)) g.ifs).map fun cs => .comp ((ownOf C.N scope).map (·.2)) (rE (C.blk scope) elt) t (cSeqI C (rE C) (isTup g.target) g.iter) cs
      else none
    else none
  | _ => none
/-- two `for` -/
def cLC2 (C : Ctx) (rE rT : Ctx → Expr → E) (elt : Expr) (gens : List Comprehension) (scope : Scope) : Option N := match gens with
  | [⟨tg, iter, ifs, 0⟩, ⟨tg1, iter1, ifs1, 0⟩] => if blkC C.N C.sc scope (ownOf C.N scope) = true ∧ notSet iter = true ∧ notSet iter1 = true then
      match cTg (C.blk scope) tg, cTg (C.blk scope) tg1, cIfs (rT (C.blk scope)) ifs, cIfs (rT (C.blk scope)) ifs1 with
      | some t, some t1, some cs, some cs1 => if (∀ i ∈ tgIx t, i ∈ (ownOf C.N scope).map (·.2)) ∧ (∀ i ∈ tgIx t1, i ∈ (ownOf C.N scope).map (·.2)) then
          some (.comp2 ((ownOf C.N scope).map (·.2)) (tgIx t1) (rE (C.blk scope) elt) t (cSeqI C (rE C) (isTup tg) iter) cs t1 (cSeqI (C.blk scope) (rE (C.blk scope)) (isTup tg1) iter1) cs1) else none
      | _, _, _, _ => none
    else none
  | _ => none
/-- xs[::-1] -/
def cRev (a : E) (lo hi : Option Expr) (s : Expr) : E := match lo, hi with
  | none, none => (match s with
    | .UnaryOp o c _ => (match o with
      | .USub => (match c with | .Constant (.int i) _ _ => if i = 1 then .rev a else .bad | _ => .bad)
      | _ => .bad)
    | _ => .bad)
  | _, _ => .bad
def stepE (rE rT : Ctx → Expr → E) (C : Ctx) (e : Expr) : E := match e with
  | .Name x _ => cName C x
  | .Constant c _ _ => cConst c
  | .BinOp a o b p => (match bopOf o with | some o => if o = .add ∧ fz C p = false then .new false (.cat (rE C a) (rE C b)) else .bin o (rE C a) (rE C b) | none => .bad)
  | .UnaryOp o a _ => (match o with | .USub => .neg (rE C a) | .Not => .notE (rE C a) | _ => .bad)
  | .BoolOp o es _ => cB (rE C) o es
  | .IfExp c a b _ => .ite (rT C c) (rE C a) (rE C b)
  | .Compare a ops bs _ => cCmp (rE C) a ops bs
  | .Tuple es _ _ => if noStar es then .tup (cEs (rE C) es) else .tup (cEsS (rE C) es)
  | .List es p => if noStar es then .new (fz C p) (.disp (cEs (rE C) es)) else .new (fz C p) (.disp (cEsS (rE C) es))
  | .Dict ks vs p => (match ks, vs with | [], [] => .new (fz C p) .dict0 | k :: ks, vs => if (k :: ks).length ≤ 15 then (match cPairs (rE C) (k :: ks) vs with | some ms => .dsp (flatE ms) | none => .bad) else .bad | _, _ => .bad)
  | .DictComp k v gens scope _ => (match cLC C rE rT k gens scope with | some (.comp own mk t it cs) => .dcomp own mk (rE (C.blk scope) v) t it cs | _ => .bad)
  | .ListComp elt gens scope p => (match cLC C rE rT elt gens scope with | some n => .new (fz C p) n | none => match cLC2 C rE rT elt gens scope with | some n => .new (fz C p) n | none => .bad)
  | .Call f args kws p => (match cLam C rE f args kws with | some e => e | none => match cSortK C rE f args kws with | some n => .new (fz C p) n | none => cCall C (rE C) p f args kws)
  | .Subscript a b _ => (match b with
    | .Slice lo hi st _ => (match st with | none => .slc (rE C a) (cO (rE C) lo) (cO (rE C) hi) | some s => cRev (rE C a) lo hi s)
    | b => .idx (rE C a) (rE C b))
  | _ => .bad
def stepT (rE rT : Ctx → Expr → E) (C : Ctx) (e : Expr) : E := match e with
  | .UnaryOp o a _ => (match o with | .Not => .notE (rT C a) | _ => .tru (rE C e))
  | .BoolOp o es _ => cB (rT C) o es
  | .Compare a ops bs _ => cCmp (rE C) a ops bs
  | .IfExp _ _ _ _ => .bad
  | e => .tru (rE C e)
def cET : Nat → (Ctx → Expr → E) × (Ctx → Expr → E)
  | 0 => (fun _ _ => .bad, fun _ _ => .bad)
  | n + 1 => let p := cET n; (stepE p.1 p.2, stepT p.1 p.2)

/-! ### the context as it is -/
variable [TabC]
structure CxOk (C : Ctx) (X : Cx) (W : WX) (cl : Cl) : Prop where
  N : X.N = C.N
  nd : C.N.Nodup
  sc : X.env.scope = C.sc
  fn : ∀ x, fnB C x = true → X.fn x = true
  calm : X.calm = true
  units : X.A.units + 64 < cLine
  wd : TabC.w = X.w
  blt : ∀ x ∈ C.blts, X.mg x = none
  con : ∀ x d, C.cons.lookup x = some d → ∃ v u, X.mg x = some u ∧ RelV v u ∧ ∀ φ H, Rep X.K φ H d v
  gd : C.gd = true → X.A.guards = some []
  defs : ∀ x n, C.defs.lookup x = some n → (C.gds.contains x = true → C.gd = true) → ∃ f fd ps, FnAt X.prog X.w X.K X.mg X.base (L2.CX X.prog X.w) X.A f fd ps (spG X.K (cl.call n)) ∧ X.mg x = some (.ref f) ∧ PySem.W.keepIn X.K (.ref f) = true ∧ Binds X.K fd ps []
  exs : ∀ x ∈ C.exs, ∃ A, ExcOk X.K x A ∧ X.mg x = some (.ref A)
  xvs : ∀ x n, C.xvs.lookup x = some n → ∃ A, XvOk X.K x n A ∧ X.mg x = some (.ref A)
  mets : ∀ x mi, C.mets.lookup x = some mi → MetOk X.K X.mg x mi
  lam : C.lam = true → LamOk X
  low : cl.hi = true → ∃ k, Room (k + 2) X.A ∧ (∀ x n, C.defs.lookup x = some n → C.gds.contains x = false → ∃ f fd ps, FnOk X.prog X.w X.K X.mg X.base (L2.CX X.prog X.w) k f fd ps (spG X.K (cl.low n)) ∧ X.mg x = some (.ref f) ∧ PySem.W.keepIn X.K (.ref f) = true ∧ Binds X.K fd ps []) ∧ ∀ n f, TabC.F[n]? = some f → ∃ fd ps, FnOk X.prog X.w X.K X.mg X.base (L2.CX X.prog X.w) k f fd ps (spG X.K (cl.low n)) ∧ PySem.W.keepIn X.K (.ref f) = true ∧ Binds X.K fd ps []
  fns : ∀ n f, TabC.F[n]? = some f → ∃ k fd ps, FnOk X.prog X.w X.K X.mg X.base (L2.CX X.prog X.w) k f fd ps (spG X.K (cl.call n)) ∧ Room k X.A ∧ PySem.W.keepIn X.K (.ref f) = true ∧ Binds X.K fd ps []
  tk : Takes X W
def SE (r : Ctx → Expr → E) : Prop := ∀ cl X W C e, CxOk C X W cl → PE X e (tE X.K W (evE cl (r C e)))
def STt (r : Ctx → Expr → E) : Prop := ∀ cl X W C e, CxOk C X W cl → PT X e (tT X.K W (evE cl (r C e)))
section
variable {X : Cx} {W : WX} {C : Ctx} {cl : Cl} {a b e : Expr} {es : List Expr} {pos : Pos}
theorem pe_bad : PE X e (tE X.K W (evE cl .bad)) := ⟨fun _ _ _ _ _ _ h => by
  obtain ⟨L, φ, M, lr, mh, p⟩ := h
  exact False.elim p⟩
theorem pt_bad : PT X e (tT X.K W (evE cl .bad)) := ⟨fun _ _ _ _ _ _ h => by
  obtain ⟨L, φ, M, lr, mh, p⟩ := h
  exact False.elim p⟩
theorem pw_bad : PW X e (tT X.K W (evE cl .bad)) := ⟨fun _ _ _ _ _ _ _ h => by
  obtain ⟨L, φ, M, lr, mh, p⟩ := h
  exact False.elim p⟩
theorem star_cons {env : Env} (h : notStar a = true) : starEach (a :: es) env = (false, eval a env) :: starEach es env := by
  cases a <;> first | rfl | cases h
theorem star_none {env : Env} : ∀ {es : List Expr}, noStar es = true → (backTo pos (starEach es env)).any (·.1) = false ∧ (backTo pos (starEach es env)).all (fun x => !x.1) = true
  | [], _ => ⟨rfl, rfl⟩
  | a :: es, h => by
    unfold noStar at h
    rw [List.all_cons, Bool.and_eq_true] at h
    obtain ⟨i1, i2⟩ := star_none (es := es) h.2
    rw [star_cons h.1]
    exact ⟨by simpa [backTo] using i1, by simpa [backTo] using i2⟩
theorem CxOk.gl (c : CxOk C X W cl) {x : Str} (h : kindIs C x .globalImplicit = true) : Gl X x := by
  have := of_decide_eq_true h
  rw [← c.sc] at this
  exact this
theorem CxOk.bn (c : CxOk C X W cl) {x : Str} (h : bltIn C x = true) : BN X x := by
  unfold bltIn at h
  rw [Bool.and_eq_true] at h
  exact ⟨c.gl h.2, c.blt x (by simpa using h.1)⟩
theorem CxOk.look (c : CxOk C X W cl) {x : Str} {k : NameKind} (h : kindIs C x k = true) : X.env.scope.names.lookup x = some k := by
  rw [c.sc]
  exact of_decide_eq_true h
theorem tyName_is {x : Str} {n : String} (h : tyName x = some n) : bootBuiltins x = some (.type n) ∧ x ≠ "__name__" ∧ (x == ("__debug__" : Str)) = false := by
  unfold tyName at h
  split at h
  · rename_i e; cases h; subst e; exact ⟨by decide +kernel, by decide, by decide⟩
  split at h
  · rename_i e; cases h; subst e; exact ⟨by decide +kernel, by decide, by decide⟩
  split at h
  · rename_i e; cases h; subst e; exact ⟨by decide +kernel, by decide, by decide⟩
  split at h
  · rename_i e; cases h; subst e; exact ⟨by decide +kernel, by decide, by decide⟩
  split at h
  · rename_i e; cases h; subst e; exact ⟨by decide +kernel, by decide, by decide⟩
  split at h
  · rename_i e; cases h; subst e; exact ⟨by decide +kernel, by decide, by decide⟩
  · cases h
theorem ok_name (c : CxOk C X W cl) (x : Str) : PE X (.Name x pos) (tE X.K W (evE cl (cName C x))) := by
  unfold cName
  split
  · rename_i hn
    unfold okName at hn
    rw [Bool.and_eq_true, Bool.not_eq_true', Bool.not_eq_true'] at hn
    split
    · rename_i hk
      split
      · rename_i i hi
        refine me_var (by rw [c.N]; exact ixOf_get hi) ?_ hn.1 hn.2
        rw [Bool.or_eq_true, Bool.or_eq_true] at hk
        rcases hk with hk | hk | hk
        · exact .inl (c.look hk)
        · exact .inr (.inl (c.look hk))
        · exact .inr (.inr (c.look hk))
      · exact pe_bad
    · split
      · rename_i hg
        split
        · rename_i d hd
          obtain ⟨v, u, h1, h2, h3⟩ := c.con x d hd
          exact me_glob (c.gl hg) h1 h2 h3 hn.1
        · split
          · rename_i hb
            split
            · rename_i n ht
              obtain ⟨h1, h2, h3⟩ := tyName_is ht
              exact me_ty (c.gl hg) (c.blt x (by simpa using hb)) h1 h2 h3
            · exact pe_bad
          · exact pe_bad
      · exact pe_bad
  · exact pe_bad
theorem ok_const (k : Const) (j : Nat) : PE X (.Constant k j pos) (tE X.K W (evE cl (cConst k))) := by
  cases k with
  | none => exact me_non
  | bool b => exact me_bl
  | int i => exact me_int
  | str x => exact me_str
  | _ => exact pe_bad
theorem bopOf_is {o : Operator} {p : Bop} (h : bopOf o = some p) : o = opOf p := by
  cases o <;> cases h <;> rfl
theorem copOf_is (o : CmpOp) : cpOf (copOf o) = o := by cases o <;> rfl
theorem ok_bool {r : Expr → E} (h : ∀ e, PE X e (tE X.K W (evE cl (r e)))) (o : PySem.BoolOp) : ∀ es : List Expr, PE X (.BoolOp o es pos) (tE X.K W (evE cl (cB r o es)))
  | [] => pe_bad
  | [e] => me_one (h e)
  | e :: e' :: es => by
    cases o with
    | And => exact me_and (h e) (ok_bool h .And (e' :: es))
    | Or => exact me_or (h e) (ok_bool h .Or (e' :: es))
theorem ok_boolW {r : Expr → E} (h : ∀ e, PT X e (tT X.K W (evE cl (r e)))) (o : PySem.BoolOp) : ∀ es : List Expr, PW X (.BoolOp o es pos) (tT X.K W (evE cl (cB r o es)))
  | [] => pw_bad
  | [e] => by
    cases o with
    | And => exact mw_and1 (h e)
    | Or => exact mw_or1 (h e)
  | e :: e' :: es => by
    cases o with
    | And => exact mw_and (h e) (ok_boolW h .And (e' :: es))
    | Or => exact mw_or (h e) (ok_boolW h .Or (e' :: es))
theorem ok_cmp (c : CxOk C X W cl) {r : Expr → E} (h : ∀ e, PE X e (tE X.K W (evE cl (r e)))) (a : Expr) (ops : List CmpOp) (bs : List Expr) : PE X (.Compare a ops bs pos) (tE X.K W (evE cl (cCmp r a ops bs))) := by
  unfold cCmp
  split
  · rename_i o b
    split
    · exact pe_bad
    · rename_i hm
      have q := me_cmp (pos := pos) (o := copOf o) c.units (h a) (h b) (by simpa using hm)
      rw [copOf_is] at q
      exact q
  · rename_i o o' b c'
    split
    · exact pe_bad
    · rename_i hm
      have q := me_chain (pos := pos) (o := copOf o) (o' := copOf o') c.units (h a) (h b) (h c') (by simpa using hm)
      rw [copOf_is, copOf_is] at q
      exact q
  · exact pe_bad
theorem ok_cmpT (c : CxOk C X W cl) {r : Expr → E} (h : ∀ e, PE X e (tE X.K W (evE cl (r e)))) (a : Expr) (ops : List CmpOp) (bs : List Expr) : PT X (.Compare a ops bs pos) (tT X.K W (evE cl (cCmp r a ops bs))) := by
  unfold cCmp
  split
  · rename_i o b
    split
    · exact pt_bad
    · rename_i hm
      have q := mt_cmp (pos := pos) (o := copOf o) c.units (h a) (h b) (by simpa using hm)
      rw [copOf_is] at q
      exact q
  · rename_i o o' b c'
    split
    · exact pt_bad
    · rename_i hm
      have q := mt_chain (pos := pos) (o := copOf o) (o' := copOf o') c.units (h a) (h b) (h c') (by simpa using hm)
      rw [copOf_is, copOf_is] at q
      exact q
  · exact pt_bad
theorem ok_es {r : Expr → E} (h : ∀ e, PE X e (tE X.K W (evE cl (r e)))) : ∀ es : List Expr, noStar es = true → PA X es (tEs X.K W (evEs cl (cEs r es)))
  | [], _ => ma_nil
  | e :: es, hs => by
    unfold noStar at hs
    rw [List.all_cons, Bool.and_eq_true] at hs
    exact ma_cons (h e) (ok_es h es hs.2) (star_cons hs.1)
theorem ok_esS {r : Expr → E} (h : ∀ e, PE X e (tE X.K W (evE cl (r e)))) : ∀ es : List Expr, PA X es (tEs X.K W (evEs cl (cEsS r es)))
  | [] => ma_nil
  | e :: es => by
    by_cases hs : notStar e = true
    · have e1 : cEsS r (e :: es) = .cons (r e) (cEsS r es) := by cases e <;> first | rfl | cases hs
      rw [e1]
      exact ma_cons (h e) (ok_esS h es) (star_cons hs)
    · cases e <;> first | exact absurd rfl hs | skip
      exact ma_star (h _) (ok_esS h es) rfl
theorem cPairs_is {r : Expr → E} : ∀ {ks : List (Option Expr)} {vs : List Expr} {ms : List (E × E)}, cPairs r ks vs = some ms → ∃ es : List Expr, ks = es.map some ∧ es.length = ms.length ∧ vs.length = ms.length ∧ (∀ (i : Nat) (k : Expr) (m : E × E), es[i]? = some k → ms[i]? = some m → m.1 = r k) ∧ ∀ (i : Nat) (v : Expr) (m : E × E), vs[i]? = some v → ms[i]? = some m → m.2 = r v
  | [], [], ms, h => by
    cases h
    exact ⟨[], rfl, rfl, rfl, fun i k m a => by simp at a, fun i k m a => by simp at a⟩
  | some k :: ks, v :: vs, ms, h => by
    unfold cPairs at h
    rw [Option.map_eq_some_iff] at h
    obtain ⟨ps, h, rfl⟩ := h
    obtain ⟨es, rfl, h1, h2, h3, h4⟩ := cPairs_is h
    refine ⟨k :: es, rfl, by simp [h1], by simp [h2], fun i a m q1 q2 => ?_, fun i a m q1 q2 => ?_⟩
    · cases i with
      | zero =>
        simp at q1 q2
        subst q1 q2
        rfl
      | succ i => exact h3 i a m (by simpa using q1) (by simpa using q2)
    · cases i with
      | zero =>
        simp at q1 q2
        subst q1 q2
        rfl
      | succ i => exact h4 i a m (by simpa using q1) (by simpa using q2)
  | none :: _, _, _, h => by simp [cPairs] at h
  | some _ :: _, [], _, h => by simp [cPairs] at h
  | [], _ :: _, _, h => by simp [cPairs] at h
theorem ok_o {r : Expr → E} (h : ∀ e, PE X e (tE X.K W (evE cl (r e)))) : ∀ o : Option Expr, PO X o (tP X.K W (evP cl (cO r o)))
  | none => mp_none
  | some e => mp_some (h e)
theorem rgArgs_is {it : Expr} {x : Expr} {xs : List Expr} (h : rgArgs C it = x :: xs) : ∃ p q, it = .Call (.Name "range" p) (x :: xs) [] q ∧ bltIn C "range" = true ∧ noStar (x :: xs) = true := by
  unfold rgArgs at h
  split at h
  · split at h
    · rename_i hk
      obtain ⟨rfl, h1, h2⟩ := hk
      subst h
      exact ⟨_, _, rfl, h1, h2⟩
    · cases h
  · cases h
theorem noStar1 {a : Expr} (h : noStar [a] = true) : notStar a = true := by simpa [noStar] using h
theorem noStar2 {a b : Expr} (h : noStar [a, b] = true) : notStar a = true ∧ notStar b = true := by simpa [noStar] using h
theorem ok_listOf (c : CxOk C X W cl) {r : Expr → E} (h : ∀ e, PE X e (tE X.K W (evE cl (r e)))) {p q : Pos} (hb : BN X "list") (hs : notStar a = true) : PE X (.Call (.Name "list" p) [a] [] q) (tE X.K W (evE cl (cListOf C r q a))) := by
  unfold cListOf
  split
  · rename_i b hr
    obtain ⟨p2, q2, rfl, h1, h2⟩ := rgArgs_is hr
    exact me_new (mn_listRg1 c.calm hb (c.bn h1) (h b) rfl (star_cons (noStar1 h2)))
  · rename_i b d hr
    obtain ⟨p2, q2, rfl, h1, h2⟩ := rgArgs_is hr
    exact me_new (mn_listRg2 c.calm hb (c.bn h1) (h b) (h d) rfl (star_cons (noStar2 h2).1) (star_cons (noStar2 h2).2))
  · exact me_new (mn_listOf hb (h a) (star_cons hs))
theorem bltOf_is {x : Str} {f : Blt} (h : bltOf x = some f) : nmOf f = x := by
  have := List.find?_some h
  exact of_decide_eq_true this
theorem mthOf_is {x : Str} {f : Mth} (h : mthOf x = some f) : mnOf f = x := by
  have := List.find?_some h
  exact of_decide_eq_true this
theorem ok_nameCall (c : CxOk C X W cl) {r : Expr → E} (h : ∀ e, PE X e (tE X.K W (evE cl (r e)))) {p : Pos} (x : Str) (a : Expr) (as : List Expr) : PE X (.Call (.Name x p) (a :: as) [] pos) (tE X.K W (evE cl (cNameCall C r pos x a as))) := by
  unfold cNameCall
  split
  · exact pe_bad
  · rename_i hn
    rw [Bool.or_eq_true, not_or, Bool.not_eq_true', Bool.not_eq_false] at hn
    obtain ⟨hd, hs⟩ := hn
    have hs' := hs
    unfold noStar at hs'
    rw [List.all_cons, Bool.and_eq_true] at hs'
    have hd' : (x == ("__debug__" : Str)) = false := by simpa using hd
    split
    · rename_i n hn
      split
      · rename_i hg
        rw [Bool.and_eq_true, Bool.or_eq_true, Bool.not_eq_true'] at hg
        obtain ⟨f, fd, ps, F, hm, hk, hb⟩ := c.defs x n hn fun z => by
          rcases hg.2 with q | q
          · rw [z] at q
            cases q
          · exact q
        exact me_callA F (c.gl hg.1) hm hk hb c.tk (ok_es h _ hs) hd' (star_cons hs'.1) (star_none hs'.2).1
      · exact pe_bad
    · split
      · rename_i hb
        have bn := c.bn hb
        split
        · rename_i e
          subst e
          split
          · split
            · exact me_new (mn_listD c.calm bn (h a) (star_cons hs'.1))
            · exact ok_listOf c h bn hs'.1
          · exact pe_bad
        · split
          · rename_i e
            subst e
            split
            · split
              · exact me_new (mn_sortedD c.calm c.units bn (h a) (star_cons hs'.1))
              · exact me_new (mn_sorted bn (h a) (star_cons hs'.1))
            · exact pe_bad
          · split
            · rename_i e
              obtain ⟨e, _⟩ := e
              subst e
              split
              · exact me_tupD c.calm bn (h a) (star_cons hs'.1)
              · exact pe_bad
            · split
              · rename_i e
                obtain ⟨e, hg⟩ := e
                subst e
                split
                · exact me_shw (c.gd hg) c.units bn (h a) (star_cons hs'.1)
                · exact pe_bad
              split
              · rename_i f hf
                have e := bltOf_is hf
                subst e
                exact me_blt c.calm bn (ok_es h _ hs) (star_cons hs'.1) (star_none hs'.2).1
              · exact pe_bad
      · split
        · rename_i hk
          split
          · exact pe_bad
          · rename_i hcd
            split
            · rename_i i hi
              refine me_callv c.fns c.tk (by rw [c.N]; exact ixOf_get hi) ?_ (ok_es h _ hs) hd' (by simpa using hcd) (star_cons hs'.1) (star_none hs'.2).1
              rw [Bool.or_eq_true, Bool.or_eq_true] at hk
              rcases hk with hk | hk | hk
              · exact .inl (c.look hk)
              · exact .inr (.inl (c.look hk))
              · exact .inr (.inr (c.look hk))
            · exact pe_bad
        · exact pe_bad
theorem base_ok {o : Expr} {m : Str} {env : Env} (h : simpleO o = true) : attributeBase o m env (eval o env) = eval o env := by
  cases o <;> first | rfl | cases h
theorem ok_methCall (c : CxOk C X W cl) {r : Expr → E} (h : ∀ e, PE X e (tE X.K W (evE cl (r e)))) {ap : Pos} (o : Expr) (m : Str) (a : Expr) (as : List Expr) : PE X (.Call (.Attribute o m ap) (a :: as) [] pos) (tE X.K W (evE cl (cMethCall C r pos o m ap a as))) := by
  unfold cMethCall
  split
  · rename_i hk
    simp only [Bool.and_eq_true, decide_eq_true_eq] at hk
    obtain ⟨h1, hs, h2, h3⟩ := hk
    have hs' := hs
    unfold noStar at hs'
    rw [List.all_cons, Bool.and_eq_true] at hs'
    split
    · rename_i f hf
      have e := mthOf_is hf
      subst e
      refine me_mth (h o) (ok_es h _ hs) (base_ok h1) ?_ (by simpa using h2) (star_cons hs'.1) (star_none hs'.2).1
      rw [(star_none hs).2]
      simp only [Bool.true_and, Bool.and_eq_true, decide_eq_true_eq]
      exact ⟨rfl, by simpa using Nat.lt_of_lt_of_le h3 (by decide)⟩
    · split
      · split
        · rename_i e
          subst e
          refine me_updt c.units c.wd (h o) (h a) (base_ok h1) ?_ (by simpa using h2) (star_cons hs'.1) (star_none hs'.2).1
          rw [(star_none hs).2]
          rfl
        · exact pe_bad
      · rename_i b
        split
        · rename_i e
          subst e
          have hb : notStar b = true := by
            have := hs'.2
            rw [List.all_cons, Bool.and_eq_true] at this
            exact this.1
          refine me_setd c.units c.wd (h o) (h a) (h b) (base_ok h1) ?_ (by simpa using h2) (star_cons hs'.1) (star_cons hb) (star_none hs'.2).1
          rw [(star_none hs).2]
          rfl
        · exact pe_bad
      · exact pe_bad
  · exact pe_bad
theorem ok_call (c : CxOk C X W cl) {r : Expr → E} (h : ∀ e, PE X e (tE X.K W (evE cl (r e)))) (f : Expr) (args : List Expr) (kws : List Keyword) : PE X (.Call f args kws pos) (tE X.K W (evE cl (cCall C r pos f args kws))) := by
  unfold cCall
  split
  · split
    · exact ok_nameCall c h _ _ _
    · exact ok_methCall c h _ _ _ _
    · exact pe_bad
  · exact pe_bad
theorem ok_seqI (c : CxOk C X W cl) {r : Expr → E} (h : ∀ e, PE X e (tE X.K W (evE cl (r e)))) (tg it : Expr) : PI X tg it (tI X.K W (evI cl (cSeqI C r (isTup tg) it))) := by
  unfold cSeqI
  split
  · rename_i b hr
    obtain ⟨p2, q2, rfl, h1, h2⟩ := rgArgs_is hr
    exact mi_range1 (c.bn h1) (h b) (star_cons (noStar1 h2))
  · rename_i b d hr
    obtain ⟨p2, q2, rfl, h1, h2⟩ := rgArgs_is hr
    exact mi_range2 (c.bn h1) (h b) (h d) (star_cons (noStar2 h2).1) (star_cons (noStar2 h2).2)
  · split
    · split
      · rename_i hk
        simp only [Bool.and_eq_true] at hk
        obtain ⟨ht, hb, hs⟩ := hk
        cases tg <;> first | cases ht | skip
        split
        · split
          · rename_i e
            subst e
            exact mi_enum (c.bn hb) (h _) (star_cons (noStar1 hs))
          · exact mi_seq (h _)
        · split
          · rename_i e
            subst e
            exact mi_zip (c.bn hb) (h _) (h _) (star_cons (noStar2 hs).1) (star_cons (noStar2 hs).2)
          · exact mi_seq (h _)
        · exact mi_seq (h _)
      · exact mi_seq (h _)
    · split
      · rename_i hk
        rw [Bool.and_eq_true] at hk
        split
        · rename_i e
          subst e
          split
          · rename_i ht
            cases tg <;> first | cases ht | skip
            exact mi_items (h _) (base_ok hk.1) hk.2
          · exact mi_seq (h _)
        · split
          · rename_i e
            subst e
            exact mi_vals (h _) (base_ok hk.1) hk.2
          · exact mi_seq (h _)
      · exact mi_seq (h _)
    · split
      · exact mi_keys (h _)
      · exact mi_seq (h _)
    · exact mi_seq (h _)
theorem notSet_is {it : Expr} {env : Env} (h : notSet it = true) : ∀ x, foldedSetIterable it env x = pure x := by
  cases it <;> first | (intro x; rfl) | cases h
theorem ok_nm (c : CxOk C X W cl) {x : Str} {i : Nat} (h : cNm C x = some i) : X.N[i]? = some x ∧ Loc X.env.scope x ∧ (X.fn x = true ∨ X.env.scope.names.lookup x = some .local) := by
  unfold cNm at h
  split at h
  · rename_i hk
    simp only [Bool.and_eq_true, Bool.or_eq_true] at hk
    refine ⟨by rw [c.N]; exact ixOf_get h, ?_, ?_⟩
    · rcases hk.1 with k | k
      · exact .inl (c.look k)
      · exact .inr (c.look k)
    · rcases hk.2 with k | k
      · exact .inl (c.fn x k)
      · exact .inr (c.look k)
  · cases h
theorem ok_nms (c : CxOk C X W cl) : ∀ {es : List Expr} {is : List Nat}, cNms C es = some is → PGs X es (gsT X.K is) ∧ (assignEach es X.env).length = is.length ∧ (assignEach es X.env).findIdx? (·.1) = none
  | [], _, h => by
    cases h
    exact ⟨mgs_nil, rfl, rfl⟩
  | e :: r, is, h => by
    cases e <;> first | cases h | skip
    rename_i x p
    simp only [cNms, Option.bind_eq_some_iff, Option.map_eq_some_iff] at h
    obtain ⟨i, hi, is', hr, rfl⟩ := h
    obtain ⟨h1, h2, h3⟩ := ok_nms c hr
    obtain ⟨n1, n2, n3⟩ := ok_nm c hi
    have ea : assignEach (.Name x p :: r) X.env = (false, assign (.Name x p) X.env) :: assignEach r X.env := rfl
    refine ⟨mgs_cons (by rw [c.N]; exact c.nd) n1 n2 n3 h1 (by rw [ea]; rfl), ?_, ?_⟩
    · rw [ea, List.length_cons, h2, List.length_cons]
    · rw [ea, List.findIdx?_cons]
      simp [h3]
theorem ok_tg (c : CxOk C X W cl) {tg : Expr} {t : Tg} (h : cTg C tg = some t) : PG X tg (gT X.K t) := by
  unfold cTg at h
  split at h
  · rw [Option.map_eq_some_iff] at h
    obtain ⟨i, hi, rfl⟩ := h
    obtain ⟨n1, n2, n3⟩ := ok_nm c hi
    exact mg_name (by rw [c.N]; exact c.nd) n1 n2 n3
  · rw [Option.map_eq_some_iff] at h
    obtain ⟨is, hi, rfl⟩ := h
    obtain ⟨h1, h2, h3⟩ := ok_nms c hi
    exact mg_tup c.calm h1 h2 h3
  · cases h
theorem CxOk.blk (c : CxOk C X W cl) (scope : Scope) (s : Shared) (H : Hp) (Cc : Addr) (l : List (Str × Addr)) (fp : List Addr) : CxOk (C.blk scope) (X.blk s H scope (compEnvC scope l Cc X.env) fp) W0 cl where
  N := c.N
  nd := c.nd
  sc := by
    show relS scope X.env.scope = relS scope C.sc
    rw [c.sc]
  fn := fun x h => h
  calm := c.calm
  units := c.units
  wd := c.wd
  blt := c.blt
  con := c.con
  gd := c.gd
  defs := c.defs
  exs := c.exs
  xvs := c.xvs
  mets := c.mets
  lam := fun h => by cases h
  low := c.low
  fns := c.fns
  tk := takes0
theorem CxOk.lamb (c : CxOk C X W cl) (scope : Scope) {k : Nat} {A : Around} {outer : List Env} {s : Shared} {H : Hp} {Ex : XK} {f c' : Addr} (hr : Room k (A.deeper (LamX.lamEnv X scope s.heap.objs.size f c')))
    (hd : ∀ x n, C.defs.lookup x = some n → C.gds.contains x = false → ∃ f fd ps, FnOk X.prog X.w X.K X.mg X.base (L2.CX X.prog X.w) k f fd ps (spG X.K (cl.low n)) ∧ X.mg x = some (.ref f) ∧ PySem.W.keepIn X.K (.ref f) = true ∧ Binds X.K fd ps [])
    (hF : ∀ n f, TabC.F[n]? = some f → ∃ fd ps, FnOk X.prog X.w X.K X.mg X.base (L2.CX X.prog X.w) k f fd ps (spG X.K (cl.low n)) ∧ PySem.W.keepIn X.K (.ref f) = true ∧ Binds X.K fd ps []) :
    CxOk (C.lamb scope) (LamX.lamCx X A outer s H Ex scope f c') (fun c d _ H => Ex c d H) cl.lower where
  N := c.N
  nd := c.nd
  sc := rfl
  fn := fun x h => by
    have z : (([] : List (Str × NameKind)).lookup x == some .cell) = true := h
    cases z
  calm := rfl
  units := by
    have := hr.un
    show (A.deeper _).units + 64 < cLine
    omega
  wd := c.wd
  blt := c.blt
  con := c.con
  gd := fun h => by cases h
  defs := fun x n hn hg => by
    obtain ⟨f', fd, ps, F, hm, hk, hb⟩ := hd x n hn (by
      cases e : C.gds.contains x with
      | false => rfl
      | true => cases hg e)
    exact ⟨f', fd, ps, fnAt_of F hr, hm, hk, hb⟩
  exs := c.exs
  xvs := c.xvs
  mets := c.mets
  lam := fun h => by cases h
  low := fun h => by cases h
  fns := fun n f hn => by
    obtain ⟨fd, ps, F, hk, hb⟩ := hF n f hn
    exact ⟨k, fd, ps, F, hr, hk, hb⟩
  tk := takes_of rfl rfl rfl rfl
structure LcOk (C : Ctx) (rE rT : Ctx → Expr → E) (elt tg iter : Expr) (ifs : List Expr) (scope : Scope) (n : N) (t : Tg) (cs : Es) : Prop where
  eq : n = .comp ((ownOf C.N scope).map (·.2)) (rE (C.blk scope) elt) t (cSeqI C (rE C) (isTup tg) iter) cs
  blk : blkC C.N C.sc scope (ownOf C.N scope) = true
  ns : notSet iter = true
  tg : cTg (C.blk scope) tg = some t
  ix : ∀ i ∈ tgIx t, i ∈ (ownOf C.N scope).map (·.2)
  cs : cIfs (rT (C.blk scope)) ifs = some cs
theorem cLC_is {rE rT : Ctx → Expr → E} {elt : Expr} {gens : List Comprehension} {scope : Scope} {n : N} (h : cLC C rE rT elt gens scope = some n) : ∃ tg iter ifs t cs, gens = [⟨tg, iter, ifs, 0⟩] ∧ LcOk C rE rT elt tg iter ifs scope n t cs := by
  unfold cLC at h
  split at h
  · rename_i g
    obtain ⟨tg, iter, ifs, as⟩ := g
    split at h
    · rename_i hk
      obtain ⟨h0, h1, h2⟩ := hk
      replace h0 : as = 0 := h0
      subst h0
      rw [Option.bind_eq_some_iff] at h
      obtain ⟨t, ht, h⟩ := h
      split at h
      · rename_i hx
        rw [Option.map_eq_some_iff] at h
        obtain ⟨cs, hc, rfl⟩ := h
        refine ⟨tg, iter, ifs, t, cs, rfl, rfl, h1, h2, ht, fun i hi => ?_, hc⟩
        have := List.all_eq_true.mp hx i hi
        simpa using this
      · cases h
    · cases h
  · cases h
theorem ok_ifs {r : Expr → E} (h : ∀ e, PT X e (tT X.K W (evE cl (r e)))) {ifs : List Expr} {cs : Es} (e : cIfs r ifs = some cs) : PTs X ifs (tT X.K W (evC cl cs)) := by
  unfold cIfs at e
  split at e
  · cases e
    exact mts_nil
  · cases e
    exact mts_one (h _)
  · cases e
theorem ok_lc (c : CxOk C X W cl) {rE rT : Ctx → Expr → E} (hE : SE rE) (hT : STt rT) {elt : Expr} {gens : List Comprehension} {scope : Scope} {n : N} (h : cLC C rE rT elt gens scope = some n) : PE X (.ListComp elt gens scope pos) (tN X.K W (evN cl n)) := by
  obtain ⟨tg, iter, ifs, t, cs, rfl, k⟩ := cLC_is h
  rw [k.eq]
  exact mn_lc c.calm (by rw [c.N]; exact c.nd) (ok_seqI c (fun e => hE cl X W C e c) tg iter) (by rw [c.N, c.sc]; exact blkOk_by k.blk) k.ix (fun s H Cc l fp => ok_tg (c.blk scope s H Cc l fp) k.tg)
    (fun s H Cc l fp => ok_ifs (fun e => hT _ _ _ _ e (c.blk scope s H Cc l fp)) k.cs) (fun s H Cc l fp => hE _ _ _ _ elt (c.blk scope s H Cc l fp)) (notSet_is k.ns)
end
theorem cLC2_is {rE rT : Ctx → Expr → E} {C : Ctx} {elt : Expr} {gens : List Comprehension} {scope : Scope} {n : N} (h : cLC2 C rE rT elt gens scope = some n) : ∃ tg iter ifs tg1 iter1 ifs1 t cs t1 cs1, gens = [⟨tg, iter, ifs, 0⟩, ⟨tg1, iter1, ifs1, 0⟩] ∧
    n = .comp2 ((ownOf C.N scope).map (·.2)) (tgIx t1) (rE (C.blk scope) elt) t (cSeqI C (rE C) (isTup tg) iter) cs t1 (cSeqI (C.blk scope) (rE (C.blk scope)) (isTup tg1) iter1) cs1 ∧
    blkC C.N C.sc scope (ownOf C.N scope) = true ∧ notSet iter = true ∧ notSet iter1 = true ∧ cTg (C.blk scope) tg = some t ∧ cTg (C.blk scope) tg1 = some t1 ∧ cIfs (rT (C.blk scope)) ifs = some cs ∧ cIfs (rT (C.blk scope)) ifs1 = some cs1 ∧
    (∀ i ∈ tgIx t, i ∈ (ownOf C.N scope).map (·.2)) ∧ (∀ i ∈ tgIx t1, i ∈ (ownOf C.N scope).map (·.2)) := by
  unfold cLC2 at h
  split at h
  · split at h
    · rename_i hk
      split at h
      · rename_i t t1 cs cs1 ht ht1 hcs hcs1
        split at h
        · rename_i hx
          cases h
          exact ⟨_, _, _, _, _, _, _, _, _, _, rfl, rfl, hk.1, hk.2.1, hk.2.2, ht, ht1, hcs, hcs1, hx.1, hx.2⟩
        · cases h
      · cases h
    · cases h
  · cases h
theorem ok_lc2 {X : Cx} {W : WX} {C : Ctx} {cl : Cl} {pos : Pos} (c : CxOk C X W cl) {rE rT : Ctx → Expr → E} (hE : SE rE) (hT : STt rT) {elt : Expr} {gens : List Comprehension} {scope : Scope} {n : N} (h : cLC2 C rE rT elt gens scope = some n) : PE X (.ListComp elt gens scope pos) (tN X.K W (evN cl n)) := by
  unfold cLC2 at h
  split at h
  · rename_i tg iter ifs tg1 iter1 ifs1
    split at h
    · rename_i hk
      obtain ⟨h0, h1, h2⟩ := hk
      split at h
      · rename_i t t1 cs cs1 ht ht1 hcs hcs1
        split at h
        · rename_i hx
          cases h
          exact mn_lc2 c.calm (by rw [c.N]; exact c.nd) (ok_seqI c (fun e => hE cl X W C e c) tg iter) (by rw [c.N, c.sc]; exact blkOk_by h0) hx.1 (fun _ h => h) hx.2 (fun s H Cc l fp => ok_tg (c.blk scope s H Cc l fp) ht)
            (fun s H Cc l fp => ok_ifs (fun e => hT _ _ _ _ e (c.blk scope s H Cc l fp)) hcs) (fun s H Cc l fp => ok_seqI (c.blk scope s H Cc l fp) (fun e => hE _ _ _ _ e (c.blk scope s H Cc l fp)) tg1 iter1)
            (fun s H Cc l fp => ok_tg (c.blk scope s H Cc l fp) ht1) (fun s H Cc l fp => ok_ifs (fun e => hT _ _ _ _ e (c.blk scope s H Cc l fp)) hcs1) (fun s H Cc l fp => hE _ _ _ _ elt (c.blk scope s H Cc l fp)) (notSet_is h1) (fun _ => notSet_is h2)
        · cases h
      · cases h
    · cases h
  · cases h
theorem noArgs_is {ps : Arguments} (h : isNoArgs ps = true) : ps = noArgs := by
  unfold isNoArgs at h
  split at h
  · rfl
  · cases h
theorem ok_lam {X : Cx} {W : WX} {C : Ctx} {cl : Cl} (c : CxOk C X W cl) {rE : Ctx → Expr → E} (hE : SE rE) {f : Expr} {args : List Expr} {kws : List Keyword} {pos : Pos} {e : E} (h : cLam C rE f args kws = some e) : PE X (.Call f args kws pos) (tE X.K W (evE cl e)) := by
  unfold cLam at h
  split at h
  · rename_i x p ps body scope lpos
    split at h
    · rename_i mi hmi
      split at h
      · rename_i hk
        cases h
        simp only [Bool.and_eq_true, Bool.not_eq_true'] at hk
        obtain ⟨h1, h2, h3, h4, h5⟩ := hk
        cases noArgs_is h4
        have L : LamX.LamS X.env.scope scope := by
          rw [c.sc]
          exact LamX.lamS_by h5
        by_cases hh : cl.hi = true
        · obtain ⟨k, hr, hd, hF⟩ := c.low hh
          exact me_met (k := k) (fun _ => ⟨hr, fun A outer s H Ex f c' hr2 => hE _ _ _ _ body (c.lamb scope hr2 hd hF)⟩) (c.mets x mi hmi) (c.lam h1) (c.gl h2) h3 L
        · exact me_met (k := 0) (fun z => absurd z hh) (c.mets x mi hmi) (c.lam h1) (c.gl h2) h3 L
      · cases h
    · cases h
  · cases h
theorem one1_is {ps : Arguments} {a : Arg} (h : one1 ps = some a) : ps = oneArg a := by
  unfold one1 at h
  split at h
  · cases h
    rfl
  · cases h
theorem ok_src {X : Cx} {W : WX} {C : Ctx} {cl : Cl} (c : CxOk C X W cl) {r : Expr → E} (h : ∀ e, PE X e (tE X.K W (evE cl (r e)))) (a : Expr) : PE X a (tSrc X.K W (evI cl (cSrc C r a))) := by
  unfold cSrc
  split
  · rename_i b hr
    obtain ⟨p2, q2, rfl, h1, h2⟩ := rgArgs_is hr
    exact ms_range1 (c.bn h1) (h b) (star_cons (noStar1 h2))
  · rename_i b d hr
    obtain ⟨p2, q2, rfl, h1, h2⟩ := rgArgs_is hr
    exact ms_range2 (c.bn h1) (h b) (h d) (star_cons (noStar2 h2).1) (star_cons (noStar2 h2).2)
  · exact ms_seq (h _)
theorem ok_sortK {X : Cx} {W : WX} {C : Ctx} {cl : Cl} (c : CxOk C X W cl) {rE : Ctx → Expr → E} (hE : SE rE) {f : Expr} {args : List Expr} {kws : List Keyword} {pos : Pos} {n : N} (h : cSortK C rE f args kws = some n) : PE X (.Call f args kws pos) (tN X.K W (evN cl n)) := by
  unfold cSortK at h
  split at h
  · rename_i x p a k ps body scope lpos kpos
    split at h
    · rename_i hk
      obtain ⟨rfl, rfl, hk⟩ := hk
      simp only [Bool.and_eq_true] at hk
      obtain ⟨h1, h2, h3⟩ := hk
      split at h
      · rename_i q hq
        cases one1_is hq
        split at h
        · rename_i hL
          rw [Option.map_eq_some_iff] at h
          obtain ⟨i, hi, rfl⟩ := h
          have LS : LamS1 X.env.scope scope q.arg := by
            rw [c.sc]
            exact lamS1_by hL
          have hix : X.N[i]? = some q.arg := by
            rw [c.N]
            exact ixOf_get hi
          have hnd : X.N.Nodup := by
            rw [c.N]
            exact c.nd
          have hsrc := ok_src c (fun e => hE cl X W C e c) a
          by_cases hh : cl.hi = true
          · obtain ⟨k, hr, hd, hF⟩ := c.low hh
            exact me_sortK (k := k) (fun _ => ⟨hr, fun A outer s H Ex f c' hr2 => hE _ _ _ _ body (c.lamb scope hr2 hd hF)⟩) (c.lam h1) c.calm c.units (c.bn h2) hnd hix hsrc LS (star_cons h3)
          · exact me_sortK (k := 0) (fun z => absurd z hh) (c.lam h1) c.calm c.units (c.bn h2) hnd hix hsrc LS (star_cons h3)
        · cases h
      · cases h
    · cases h
  · cases h
theorem ok_rev {X : Cx} {W : WX} {cl : Cl} {a : Expr} {ma : E} {lo hi : Option Expr} {s : Expr} {p q : Pos} (h : PE X a (tE X.K W (evE cl ma))) : PE X (.Subscript a (.Slice lo hi (some s) q) p) (tE X.K W (evE cl (cRev ma lo hi s))) := by
  cases lo with
  | some _ => exact pe_bad
  | none =>
    cases hi with
    | some _ => exact pe_bad
    | none =>
      cases s with
      | UnaryOp o c p2 =>
        cases o with
        | USub =>
          cases c with
          | Constant k j p1 =>
            cases k with
            | int i =>
              show PE X _ (tE X.K W (evE cl (if i = 1 then .rev ma else .bad)))
              split
              · rename_i hi
                exact me_rev hi h
              · exact pe_bad
            | _ => exact pe_bad
          | _ => exact pe_bad
        | _ => exact pe_bad
      | _ => exact pe_bad
theorem step_E {rE rT : Ctx → Expr → E} (hE : SE rE) (hT : STt rT) : SE (stepE rE rT) := by
  intro cl X W C e c
  have hE' : ∀ e, PE X e (tE X.K W (evE cl (rE C e))) := fun e => hE cl X W C e c
  cases e with
  | Name x p => exact ok_name c x
  | Constant k j p => exact ok_const k j
  | BinOp a o b p =>
    show PE X _ (tE X.K W (evE cl (match bopOf o with | some o => if o = .add ∧ fz C p = false then .new false (.cat (rE C a) (rE C b)) else .bin o (rE C a) (rE C b) | none => .bad)))
    split
    · rename_i o' ho
      rw [bopOf_is ho]
      split
      · rename_i hk
        obtain ⟨rfl, _⟩ := hk
        exact me_new (mn_cat (hE' a) (hE' b))
      · exact me_bin (hE' a) (hE' b)
    · exact pe_bad
  | UnaryOp o a p =>
    cases o with
    | USub => exact me_neg (hE' a)
    | Not => exact me_not (hE' a)
    | _ => exact pe_bad
  | BoolOp o es p => exact ok_bool hE' o es
  | IfExp k a b p => exact me_ite (hT cl X W C k c) (hE' a) (hE' b)
  | Compare a ops bs p => exact ok_cmp c hE' a ops bs
  | Tuple es k p =>
    show PE X _ (tE X.K W (evE cl (if noStar es then .tup (cEs (rE C) es) else .tup (cEsS (rE C) es))))
    split
    · rename_i hs
      exact me_tup (ok_es hE' es hs)
    · exact me_tup (ok_esS hE' es)
  | List es p =>
    show PE X _ (tE X.K W (evE cl (if noStar es then .new (fz C p) (.disp (cEs (rE C) es)) else .new (fz C p) (.disp (cEsS (rE C) es)))))
    split
    · rename_i hs
      exact me_new (mn_disp (ok_es hE' es hs))
    · exact me_new (mn_disp (ok_esS hE' es))
  | Dict ks vs p =>
    cases ks with
    | nil =>
      cases vs with
      | nil => exact me_new mn_dict0
      | cons _ _ => exact pe_bad
    | cons k ks =>
      show PE X _ (tE X.K W (evE cl (if (k :: ks).length ≤ 15 then (match cPairs (rE C) (k :: ks) vs with | some ms => .dsp (flatE ms) | none => .bad) else .bad)))
      split
      · rename_i h15
        split
        · rename_i ms hm
          obtain ⟨es, he, h1, h2, h3, h4⟩ := cPairs_is hm
          rw [he] at h15 ⊢
          have c0 : CxOk C X W0 cl := { c with tk := takes0 }
          refine me_dsp c.units c.wd h1 h2 (fun z => ?_) (by simpa using h15) (fun i k m a b => ?_) fun i v m a b => ?_
          · subst z
            cases he
          · rw [h3 i k m a b]
            exact hE cl X W0 C k c0
          · rw [h4 i v m a b]
            exact hE cl X W0 C v c0
        · exact pe_bad
      · exact pe_bad
  | DictComp k v gens scope p =>
    show PE X _ (tE X.K W (evE cl (match cLC C rE rT k gens scope with | some (.comp own mk t it cs) => .dcomp own mk (rE (C.blk scope) v) t it cs | _ => .bad)))
    split
    · rename_i own mk t it cs hn
      obtain ⟨tg, iter, ifs, t', cs', rfl, q⟩ := cLC_is hn
      have hq := q.eq
      cases hq
      exact me_dcomp c.units c.wd c.calm (by rw [c.N]; exact c.nd) (ok_seqI c (fun e => hE cl X W C e c) tg iter) (by rw [c.N, c.sc]; exact blkOk_by q.blk) q.ix (fun s H Cc l fp => ok_tg (c.blk scope s H Cc l fp) q.tg)
        (fun s H Cc l fp => ok_ifs (fun e => hT _ _ _ _ e (c.blk scope s H Cc l fp)) q.cs) (fun s H Cc l fp => hE _ _ _ _ k (c.blk scope s H Cc l fp)) (fun s H Cc l fp => hE _ _ _ _ v (c.blk scope s H Cc l fp)) (notSet_is q.ns)
    · exact pe_bad
  | ListComp elt gens scope p =>
    show PE X _ (tE X.K W (evE cl (match cLC C rE rT elt gens scope with | some n => .new (fz C p) n | none => match cLC2 C rE rT elt gens scope with | some n => .new (fz C p) n | none => .bad)))
    split
    · rename_i n hn
      exact me_new (ok_lc c hE hT hn)
    · split
      · rename_i n hn
        exact me_new (ok_lc2 c hE hT hn)
      · exact pe_bad
  | Call f args kws p =>
    show PE X _ (tE X.K W (evE cl (match cLam C rE f args kws with | some e => e | none => match cSortK C rE f args kws with | some n => .new (fz C p) n | none => cCall C (rE C) p f args kws)))
    split
    · rename_i e he
      exact ok_lam c hE he
    · split
      · rename_i n hn
        exact me_new (ok_sortK c hE hn)
      · exact ok_call c hE' f args kws
  | Subscript a b p =>
    cases b with
    | Slice lo hi st q =>
      cases st with
      | none => exact me_slc (hE' a) (ok_o hE' lo) (ok_o hE' hi)
      | some s => exact ok_rev (hE' a)
    | _ => exact me_idx c.units c.wd (hE' a) (hE' _) fun _ _ => rfl
  | _ => exact pe_bad
theorem step_T {rE rT : Ctx → Expr → E} (hE : SE rE) (hT : STt rT) : STt (stepT rE rT) := by
  intro cl X W C e c
  have hE' : ∀ e, PE X e (tE X.K W (evE cl (rE C e))) := fun e => hE cl X W C e c
  have hT' : ∀ e, PT X e (tT X.K W (evE cl (rT C e))) := fun e => hT cl X W C e c
  cases e with
  | UnaryOp o a p =>
    cases o with
    | Not => exact mt_not (hT' a)
    | _ => exact mt_tru (hE' _) fun _ => rfl
  | BoolOp o es p => exact (ok_boolW hT' o es).pt
  | Compare a ops bs p => exact ok_cmpT c hE' a ops bs
  | IfExp k a b p => exact pt_bad
  | _ => exact mt_tru (hE' _) fun _ => rfl
theorem ok_ET : ∀ n, SE (cET n).1 ∧ STt (cET n).2
  | 0 => ⟨fun _ _ _ _ _ _ => pe_bad, fun _ _ _ _ _ _ => pt_bad⟩
  | n + 1 => ⟨step_E (ok_ET n).1 (ok_ET n).2, step_T (ok_ET n).1 (ok_ET n).2⟩
end MP
/-! MiniPy 14: statements from the syntax tree. -/
namespace MP
open PySem PySem.Spec PyProof.Rows L2

def cSs (r : Stmt → S) : List Stmt → Ss
  | [] => .nil
  | s :: ss => .cons (r s) (cSs r ss)
/-- name = [..] on one line -/
def lcSet (C : Ctx) (y : Str) (py : Pos) (scope : Scope) (pos : Pos) : Bool :=
  kindIs C y .local && (decide (C.sc.kind = .function) && ((py.line == pos.line) && !(scope.names.any fun (n, k) => n == y && (k == .local || k == .cell))))
def parNames : Expr → Option (Str × Str)
  | .Tuple [.Name x _, .Name y _] _ _ => some (x, y)
  | _ => none
def parOk (C : Ctx) (tg e : Expr) (x y : Str) : Bool :=
  match tg, e with
  | .Tuple [.Name _ px, .Name _ py] _ _, .Tuple [a, b] _ _ =>
    kindIs C x .local && (kindIs C y .local && (decide (C.sc.kind = .function) && (decide (x ≠ y) && ((py.line == px.line) && (notStar a && (notStar b && (!(foldedForSure 8 a && foldedForSure 8 b) && !(constantsAlone 8 a && constantsAlone 8 b))))))))
  | _, _ => false
def foldTup : Expr → Bool
  | .Tuple vs _ _ => vs.all (foldedForSure 8) && noStar vs
  | _ => false
/-- two names, one of which is none of the block's own: stored in order -/
def oddPair (C : Ctx) (tg e : Expr) : Bool :=
  match tg, e with
  | .Tuple [.Name x _, .Name y _] _ _, .Tuple [a, b] _ _ => !(kindIs C x .local && kindIs C y .local) && (notStar a && notStar b)
  | _, _ => false
def oddTri (C : Ctx) (tg e : Expr) : Bool :=
  match tg, e with
  | .Tuple [.Name x _, .Name y _, .Name z _] _ _, .Tuple [a, b, c] _ _ => !(kindIs C x .local && (kindIs C y .local && kindIs C z .local)) && (notStar a && (notStar b && notStar c))
  | _, _ => false
def cSetTup (C : Ctx) (r : Expr → E) (tg e : Expr) : S :=
  if isComp e then .bad else
  if isTup e then
    if foldTup e || (oddPair C tg e || oddTri C tg e) then (match cTg C tg with | some t => .asg t (r e) | none => .bad) else
    match parNames tg with
    | some (x, y) => if parOk C tg e x y then (match cNm C x, cNm C y with | some i, some j => (match e with | .Tuple es _ _ => .asg (.tup [i, j]) (.tup (cEs r es)) | _ => .bad) | _, _ => .bad) else .bad
    | none => .bad
  else match cTg C tg with | some t => .asg t (r e) | none => .bad
def cAssign (C : Ctx) (rE rT : Ctx → Expr → E) (tg e : Expr) : S := match tg with
  | .Name x px => (match cNm C x with
    | some i => (match e with
      | .ListComp elt gens scope pos => if lcSet C x px scope pos then (match cLC C rE rT elt gens scope with | some n => .asg (.name i) (.new (fz C pos) n) | none => match cLC2 C rE rT elt gens scope with | some n => .asg (.name i) (.new (fz C pos) n) | none => .bad) else if kindIs C x .local then .bad else .asg (.name i) (rE C (.ListComp elt gens scope pos))
      | e => if isComp e then .bad else .asg (.name i) (rE C e))
    | none => .bad)
  | .Tuple ts k p => (match ts with
    | [.Subscript o i _, .Name y _] => (match cNm C y with | some j => if isSlice i || isComp e then .bad else .asgIx (rE C o) (rE C i) j (rE C e) | none => .bad)
    | ts => cSetTup C (rE C) (.Tuple ts k p) e)
  | .Subscript o i _ => if isSlice i || isComp e then .bad else .setI (rE C o) (rE C i) (rE C e)
  | _ => .bad
def cRaise (C : Ctx) (r : Expr → E) (e : Option Expr) : S := match e with
  | some (.Call (.Name x _) [a] [] _) => (match C.xvs.lookup x with
    | some n => if notStar a && (kindIs C x .globalImplicit && !(x == ("__debug__" : Str))) then .raisev x n (r a) else .bad
    | none => (match a with | .Constant (.str _) _ _ => if C.exs.contains x && (kindIs C x .globalImplicit && !(x == ("__debug__" : Str))) then .raise x .nil else .bad | _ => .bad))
  | _ => .bad
def stepS (rE rT : Ctx → Expr → E) (C : Ctx) (rS : Stmt → S) (st : Stmt) : S := match st with
  | .Expr e _ => if isComp e then .bad else .ex (rE C e)
  | .Return o _ => (match o with | some e => .ret (rE C e) | none => .ret (.lit .non))
  | .If c a b _ => .ite (rT C c) (cSs rS a) (cSs rS b)
  | .For tg it body els _ => (match els with
    | [] => if notSet it then (match cTg C tg with | some t => .for t (cSeqI C (rE C) (isTup tg) it) (cSs rS body) | none => .bad) else .bad
    | _ => .bad)
  | .While c body els _ => (match els with | [] => .whil (rT C c) (cSs rS body) | _ => .bad)
  | .Pass _ => .pass
  | .Break _ => .brk
  | .Continue _ => .cont
  | .Assign ts e _ => (match ts with | [t] => cAssign C rE rT t e | _ => .bad)
  | .AugAssign t o e _ => (match t with
    | .Name x _ => (match bopOf o, cNm C x with | some k, some i => if k = .pow then .bad else .aug i k (rE C e) | _, _ => .bad)
    | _ => .bad)
  | .Raise e none _ => cRaise C (rE C) e
  | _ => .bad
def cS (rE rT : Ctx → Expr → E) (C : Ctx) : Nat → Stmt → S
  | 0 => fun _ => .bad
  | n + 1 => stepS rE rT C (cS rE rT C n)

variable [TabC]
section
variable {X : Cx} {W : WX} {C : Ctx} {cl : Cl} {a b e : Expr} {es : List Expr} {pos : Pos} {st : Stmt}
theorem ps_bad : PS X st (tS X.K W (exS cl .bad)) := ⟨fun _ _ _ _ _ _ h => by
  obtain ⟨L, φ, M, lr, mh, p⟩ := h
  exact False.elim p⟩
theorem ok_ss {r : Stmt → S} (h : ∀ s, PS X s (tS X.K W (exS cl (r s)))) : ∀ ss : List Stmt, PSs X ss (tS X.K W (exSs cl (cSs r ss)))
  | [] => ss_nil
  | s :: ss => ss_cons (h s) (ok_ss h ss)
theorem sw_no {l : Nat} {t : Option Expr} {env : Env} (h : isComp e = false) : swapsWith e t l env = pure false := by
  cases e <;> first | rfl | cases h
theorem sole_no {l : Nat} {t : Expr} {env : Env} (h : isComp e = false) : swapsWithSole [t] e l env = pure false := sw_no (t := some t) h
theorem swStores_no {t : Expr} {env : Env} (h : isTup e = false) : swappedStores [t] e env = pure none := by
  unfold swappedStores
  cases e <;> first | (cases t <;> rfl) | cases h
theorem swStores_fold {t : Expr} {env : Env} (h : foldTup e = true) : swappedStores [t] e env = pure none := by
  cases e <;> first | cases h | skip
  rename_i vs k p
  unfold foldTup at h
  rw [Bool.and_eq_true] at h
  unfold swappedStores
  cases t <;> first
    | rfl
    | (dsimp only
       split
       · rfl
       · split
         · rfl
         · split
           · rfl
           · rw [h.1]
             rfl)
theorem odd_swap (c : CxOk C X W cl) {tg e : Expr} (h : oddPair C tg e = true) : swappedStores [tg] e X.env = pure none := by
  unfold oddPair at h
  split at h
  · rename_i x px y py k pt a b k2 p2
    simp only [Bool.and_eq_true, Bool.not_eq_true', Bool.and_eq_false_iff] at h
    obtain ⟨h1, h2, h3⟩ := h
    have kk : ∀ z, kindIs C z .local = false → (X.env.kindOf z == some .local) = false := fun z hz => by
      unfold kindIs at hz
      show (X.env.scope.names.lookup z == some .local) = false
      rw [c.sc]
      simpa using hz
    unfold swappedStores
    dsimp only
    split
    · rfl
    · split
      · rfl
      · rw [if_pos]
        have none1 : ∀ f : Expr → Option Str, (f (.Name x px) = none ∨ f (.Name y py) = none) → (([Expr.Name x px, Expr.Name y py].filterMap f).length != 2) = true := fun f hf => by
          rcases hf with hf | hf
          · rw [List.filterMap_cons_none hf]
            cases hg : f (.Name y py) with
            | none => rw [List.filterMap_cons_none hg]; rfl
            | some z => rw [List.filterMap_cons_some hg]; rfl
          · cases hg : f (.Name x px) with
            | none => rw [List.filterMap_cons_none hg, List.filterMap_cons_none hf]; rfl
            | some z => rw [List.filterMap_cons_some hg, List.filterMap_cons_none hf]; rfl
        rw [Bool.or_eq_true]
        refine .inl (none1 _ ?_)
        rcases h1 with h1 | h1
        · have := kk _ h1
          exact .inl (if_neg (by rw [this, Bool.false_and]; exact Bool.false_ne_true))
        · have := kk _ h1
          exact .inr (if_neg (by rw [this, Bool.false_and]; exact Bool.false_ne_true))
  · cases h
theorem odd_swap3 (c : CxOk C X W cl) {tg e : Expr} (h : oddTri C tg e = true) : swappedStores [tg] e X.env = pure none := by
  unfold oddTri at h
  split at h
  · rename_i x px y py z pz k pt a b c' k2 p2
    simp only [Bool.and_eq_true, Bool.not_eq_true', Bool.and_eq_false_iff] at h
    obtain ⟨h1, h2, h3⟩ := h
    have kk : ∀ z, kindIs C z .local = false → (X.env.kindOf z == some .local) = false := fun z hz => by
      unfold kindIs at hz
      show (X.env.scope.names.lookup z == some .local) = false
      rw [c.sc]
      simpa using hz
    unfold swappedStores
    dsimp only
    split
    · rfl
    · split
      · rfl
      · rw [if_pos]
        have none1 : ∀ f : Expr → Option Str, (∃ e ∈ [Expr.Name x px, Expr.Name y py, Expr.Name z pz], f e = none) → (([Expr.Name x px, Expr.Name y py, Expr.Name z pz].filterMap f).length != 3) = true := fun f hf => by
          obtain ⟨e, he, hf⟩ := hf
          have := (List.length_filterMap_lt_length_iff_exists (xs := [Expr.Name x px, Expr.Name y py, Expr.Name z pz]) (f := f)).mpr ⟨e, he, hf⟩
          have e3 : [Expr.Name x px, Expr.Name y py, Expr.Name z pz].length = 3 := rfl
          rw [e3] at this
          simpa using Nat.ne_of_lt this
        rw [Bool.or_eq_true]
        refine .inl (none1 _ ?_)
        rcases h1 with h1 | h1 | h1
        · exact ⟨.Name x px, by simp, if_neg (by rw [kk _ h1, Bool.false_and]; exact Bool.false_ne_true)⟩
        · exact ⟨.Name y py, by simp, if_neg (by rw [kk _ h1, Bool.false_and]; exact Bool.false_ne_true)⟩
        · exact ⟨.Name z pz, by simp, if_neg (by rw [kk _ h1, Bool.false_and]; exact Bool.false_ne_true)⟩
  · cases h
theorem ix_swap {o i e : Expr} {y : Str} {tp py p : Pos} {k : Nat} {env : Env} : swappedStores [.Tuple [.Subscript o i tp, .Name y py] k p] e env = pure none := by
  cases e <;> first
    | (unfold swappedStores; rfl)
    | skip
  unfold swappedStores
  dsimp only
  split
  · rfl
  · split
    · rfl
    · rw [if_pos]
      have none1 : ∀ f : Expr → Option Str, f (.Subscript o i tp) = none → (([Expr.Subscript o i tp, Expr.Name y py].filterMap f).length != 2) = true := fun f hf => by
        rw [List.filterMap_cons_none hf]
        cases hg : f (.Name y py) with
        | none => rw [List.filterMap_cons_none hg]; rfl
        | some z => rw [List.filterMap_cons_some hg]; rfl
      rw [Bool.or_eq_true]
      exact .inl (none1 _ rfl)
theorem lc_swap (c : CxOk C X W cl) {elt : Expr} {gens : List Comprehension} {scope : Scope} {y : Str} {py : Pos} {l : Nat} (h : lcSet C y py scope pos = true) : X.env.scope.names.lookup y = some .local ∧ swapsWith (.ListComp elt gens scope pos) (some (.Name y py)) l X.env = pure true := by
  unfold lcSet at h
  simp only [Bool.and_eq_true, decide_eq_true_eq, Bool.not_eq_true'] at h
  obtain ⟨h1, h2, h3, h4⟩ := h
  have hy := c.look h1
  exact ⟨hy, sw_true (by rw [c.sc]; exact h2) hy h3 h4⟩
theorem par_swap (c : CxOk C X W cl) {x y : Str} {px py pt p2 : Pos} {k k2 : Nat} (h : parOk C (.Tuple [.Name x px, .Name y py] k pt) (.Tuple [a, b] k2 p2) x y = true) :
    X.env.scope.names.lookup x = some .local ∧ X.env.scope.names.lookup y = some .local ∧ x ≠ y ∧ notStar a = true ∧ notStar b = true ∧ swappedStores [.Tuple [.Name x px, .Name y py] k pt] (.Tuple [a, b] k2 p2) X.env = pure (some [x, y]) := by
  unfold parOk at h
  simp only [Bool.and_eq_true, decide_eq_true_eq, Bool.not_eq_true'] at h
  obtain ⟨h1, h2, h3, h4, h5, h6, h7, h8, h9⟩ := h
  have hx := c.look h1
  have hy := c.look h2
  have kx : X.env.kindOf x = some .local := hx
  have ky : X.env.kindOf y = some .local := hy
  have hb : X.env.blockKind = .function := by
    unfold Env.blockKind
    rw [c.sc, h3]
    rfl
  refine ⟨hx, hy, h4, h6, h7, ?_⟩
  have hd : ([x, y].eraseDups.length != 2) = false := by
    have : (y == x) = false := by simpa using fun e : y = x => h4 e.symm
    simp [List.eraseDups_cons, this]
  unfold swappedStores
  dsimp only
  rw [List.any_cons, List.any_cons, List.any_nil]
  simp only [hb, List.filterMap_cons, List.filterMap_nil, kx, ky, h5, List.head?_cons, Option.map_some, Option.getD_some, Expr.pos, beq_self_eq_true, Bool.and_self, if_true, List.length_cons, List.length_nil, List.all_cons, List.all_nil, Bool.and_true, h8, h9]
  simp [hd]
  intro hh
  rcases hh with hh | hh
  · cases a <;> first | (cases hh; done) | cases h6
  · cases b <;> first | (cases hh; done) | cases h7
theorem par_is {tg e : Expr} {x y : Str} (hn : parNames tg = some (x, y)) (h : parOk C tg e x y = true) : ∃ px py k pt a b k2 p2, tg = .Tuple [.Name x px, .Name y py] k pt ∧ e = .Tuple [a, b] k2 p2 := by
  unfold parNames at hn
  split at hn
  · cases hn
    unfold parOk at h
    split at h
    · rename_i h1 h2
      cases h1
      exact ⟨_, _, _, _, _, _, _, _, rfl, rfl⟩
    · cases h
  · cases hn
theorem ok_asgTg (c : CxOk C X W cl) {tg : Expr} {t : Tg} {me : E} (hg : cTg C tg = some t) (he : PE X e (tE X.K W (evE cl me))) (hc : isComp e = false) (hw : swappedStores [tg] e X.env = pure none) : PS X (.Assign [tg] e pos) (tS X.K W (exS cl (.asg t me))) := by
  refine s_asg he (ok_tg c hg) (sw_no hc) hw ?_
  unfold cTg at hg
  split at hg
  · rfl
  · rfl
  · cases hg
theorem sw_cell {elt : Expr} {gens : List Comprehension} {scope : Scope} {p py : Pos} {y : Str} {l : Nat} {env : Env} (h : (env.kindOf y == some .local) = false) : swapsWith (.ListComp elt gens scope p) (some (.Name y py)) l env = pure false := by
  unfold swapsWith
  simp [h]
theorem ok_setTup (c : CxOk C X W cl) {r : Expr → E} (h : ∀ e, PE X e (tE X.K W (evE cl (r e)))) (tg e : Expr) : PS X (.Assign [tg] e pos) (tS X.K W (exS cl (cSetTup C r tg e))) := by
  unfold cSetTup
  split
  · exact ps_bad
  · rename_i hc
    replace hc : isComp e = false := by simpa using hc
    split
    · split
      · rename_i hf
        rw [Bool.or_eq_true, Bool.or_eq_true] at hf
        split
        · rename_i t ht
          exact ok_asgTg c ht (h e) hc (hf.elim swStores_fold fun z => z.elim (odd_swap c) (odd_swap3 c))
        · exact ps_bad
      · split
        · rename_i x y hp
          split
          · rename_i ho
            obtain ⟨px, py, k, pt, a, b, k2, p2, rfl, rfl⟩ := par_is hp ho
            split
            · rename_i i j hi hj
              obtain ⟨h1, h2, h3, h4, h5, h6⟩ := par_swap c ho
              obtain ⟨i1, _, _⟩ := ok_nm c hi
              obtain ⟨j1, _, _⟩ := ok_nm c hj
              refine s_par c.calm (by rw [c.N]; exact c.nd) i1 j1 (fun e => ?_) h1 h2 (ok_es h [a, b] (by simp [noStar, h4, h5])) h6 (sole_no rfl)
              subst e
              rw [i1] at j1
              exact h3 (Option.some.inj j1)
            · exact ps_bad
          · exact ps_bad
        · exact ps_bad
    · rename_i ht
      split
      · rename_i t hg
        exact ok_asgTg c hg (h e) hc (swStores_no (by simpa using ht))
      · exact ps_bad
theorem ok_assign (c : CxOk C X W cl) {rE rT : Ctx → Expr → E} (hE : SE rE) (hT : STt rT) (tg e : Expr) : PS X (.Assign [tg] e pos) (tS X.K W (exS cl (cAssign C rE rT tg e))) := by
  have hE' : ∀ e, PE X e (tE X.K W (evE cl (rE C e))) := fun e => hE cl X W C e c
  unfold cAssign
  split
  · rename_i x px
    split
    · rename_i i hi
      obtain ⟨n1, n2, n3⟩ := ok_nm c hi
      split
      · rename_i elt gens scope p
        split
        · rename_i hl
          split
          · rename_i n hn
            obtain ⟨tg, iter, ifs, t, cs, rfl, k⟩ := cLC_is hn
            obtain ⟨hy, hsw⟩ := lc_swap (elt := elt) (gens := [⟨tg, iter, ifs, 0⟩]) (l := pos.line) c hl
            rw [k.eq]
            exact s_setLc c.calm (by rw [c.N]; exact c.nd) n1 hy hsw (ok_seqI c hE' tg iter) (by rw [c.N, c.sc]; exact blkOk_by k.blk) k.ix (fun s H Cc l fp => ok_tg (c.blk scope s H Cc l fp) k.tg)
              (fun s H Cc l fp => ok_ifs (fun e => hT _ _ _ _ e (c.blk scope s H Cc l fp)) k.cs) (fun s H Cc l fp => hE _ _ _ _ elt (c.blk scope s H Cc l fp)) (notSet_is k.ns)
          · split
            · rename_i n hn
              obtain ⟨tg, iter, ifs, tg1, iter1, ifs1, t, cs, t1, cs1, rfl, rfl, h0, h1, h2, ht, ht1, hcs, hcs1, hx, hx1⟩ := cLC2_is hn
              obtain ⟨hy, hsw⟩ := lc_swap (elt := elt) (gens := [⟨tg, iter, ifs, 0⟩, ⟨tg1, iter1, ifs1, 0⟩]) (l := pos.line) c hl
              exact s_setLc2 c.calm (by rw [c.N]; exact c.nd) n1 hy hsw (ok_seqI c hE' tg iter) (by rw [c.N, c.sc]; exact blkOk_by h0) hx (fun _ h => h) hx1 (fun s H Cc l fp => ok_tg (c.blk scope s H Cc l fp) ht)
                (fun s H Cc l fp => ok_ifs (fun e => hT _ _ _ _ e (c.blk scope s H Cc l fp)) hcs) (fun s H Cc l fp => ok_seqI (c.blk scope s H Cc l fp) (fun e => hE _ _ _ _ e (c.blk scope s H Cc l fp)) tg1 iter1)
                (fun s H Cc l fp => ok_tg (c.blk scope s H Cc l fp) ht1) (fun s H Cc l fp => ok_ifs (fun e => hT _ _ _ _ e (c.blk scope s H Cc l fp)) hcs1) (fun s H Cc l fp => hE _ _ _ _ elt (c.blk scope s H Cc l fp)) (notSet_is h1) (fun _ => notSet_is h2)
            · exact ps_bad
        · split
          · exact ps_bad
          · rename_i hk
            exact s_set (by rw [c.N]; exact c.nd) n1 n2 (hE' _) (sw_cell (by
              unfold kindIs at hk
              show (X.env.scope.names.lookup x == some .local) = false
              rw [c.sc]
              simpa using hk)) n3
      · split
        · exact ps_bad
        · rename_i hc
          exact s_set (by rw [c.N]; exact c.nd) n1 n2 (hE' _) (sw_no (by simpa using hc)) n3
    · exact ps_bad
  · rename_i ts k pt
    split
    · rename_i o i tp y py
      split
      · rename_i j hj
        obtain ⟨n1, n2, n3⟩ := ok_nm c hj
        split
        · exact ps_bad
        · rename_i hc
          rw [Bool.or_eq_true, not_or, Bool.not_eq_true, Bool.not_eq_true] at hc
          exact s_asgIx c.units c.wd c.calm (by rw [c.N]; exact c.nd) n1 n2 n3 (hE' _) (hE' _) (hE' _) (fun v => by cases i <;> first | rfl | cases hc.1) (sole_no hc.2) ix_swap
      · exact ps_bad
    · exact ok_setTup c hE' _ _
  · rename_i o i tp
    split
    · exact ps_bad
    · rename_i hc
      rw [Bool.or_eq_true, not_or, Bool.not_eq_true, Bool.not_eq_true] at hc
      refine s_setI c.units c.wd (hE' _) (hE' _) (hE' _) (fun v => ?_) (sole_no hc.2) ?_ rfl
      · cases i <;> first | rfl | cases hc.1
      · unfold swappedStores
        cases e <;> rfl
  · exact ps_bad
theorem ok_S {rE rT : Ctx → Expr → E} (hE : SE rE) (hT : STt rT) (c : CxOk C X W cl) (hp : PassesOwn (model X.prog X.w) X.A X.env X.xe) : ∀ (n : Nat) (st : Stmt), PS X st (tS X.K W (exS cl (cS rE rT C n st)))
  | 0, _ => ps_bad
  | n + 1, st => by
    have hE' : ∀ e, PE X e (tE X.K W (evE cl (rE C e))) := fun e => hE cl X W C e c
    have hT' : ∀ e, PT X e (tT X.K W (evE cl (rT C e))) := fun e => hT cl X W C e c
    have ih := ok_S hE hT c hp n
    cases st with
    | Expr e p =>
      show PS X _ (tS X.K W (exS cl (if isComp e then .bad else .ex (rE C e))))
      split
      · exact ps_bad
      · rename_i hc
        exact s_ex (hE' e) (sw_no (by simpa using hc))
    | Return o p =>
      cases o with
      | none => exact s_ret0
      | some e => exact s_ret (hE' e)
    | If k a b p => exact s_if (hT' k) (ok_ss ih a) (ok_ss ih b)
    | For tg it body els p =>
      cases els with
      | cons _ _ => exact ps_bad
      | nil =>
        show PS X _ (tS X.K W (exS cl (if notSet it then (match cTg C tg with | some t => .for t (cSeqI C (rE C) (isTup tg) it) (cSs (cS rE rT C n) body) | none => .bad) else .bad)))
        split
        · rename_i hs
          split
          · rename_i t ht
            exact s_for hp c.calm (ok_seqI c hE' tg it) (ok_tg c ht) (ok_ss ih body) (notSet_is hs)
          · exact ps_bad
        · exact ps_bad
    | While k body els p =>
      cases els with
      | cons _ _ => exact ps_bad
      | nil => exact s_while hp (hT' k) (ok_ss ih body)
    | Pass p => exact s_pass
    | Break p => exact s_brk
    | Continue p => exact s_cont
    | Assign ts e p =>
      match ts with
      | [] => exact ps_bad
      | [t] => exact ok_assign c hE hT t e
      | _ :: _ :: _ => exact ps_bad
    | AugAssign t o e p =>
      cases t with
      | Name x px =>
        show PS X _ (tS X.K W (exS cl (match bopOf o, cNm C x with | some k, some i => if k = .pow then .bad else .aug i k (rE C e) | _, _ => .bad)))
        split
        · rename_i k i ho hi
          split
          · exact ps_bad
          · rename_i hk
            obtain ⟨n1, n2, n3⟩ := ok_nm c hi
            rw [bopOf_is ho]
            exact s_aug hk (by rw [c.N]; exact c.nd) n1 n2 (hE' e) n3
        · exact ps_bad
      | _ => exact ps_bad
    | Raise e ca p =>
      cases ca with
      | some _ => exact ps_bad
      | none =>
        show PS X _ (tS X.K W (exS cl (cRaise C (rE C) e)))
        unfold cRaise
        split
        · split
          · rename_i n hx
            split
            · rename_i hk
              rw [Bool.and_eq_true, Bool.and_eq_true, Bool.not_eq_true'] at hk
              obtain ⟨A, hA, hm⟩ := c.xvs _ _ hx
              refine s_raisev c.calm c.tk hA (fun hh => ?_) (c.gl hk.2.1) hm hk.2.2 (hE' _) (star_cons hk.1)
              obtain ⟨k, hr, _⟩ := c.low hh
              exact hr.mono (by omega)
            · exact ps_bad
          · split
            · split
              · rename_i hk
                rw [Bool.and_eq_true, Bool.and_eq_true, Bool.not_eq_true'] at hk
                obtain ⟨A, hA, hm⟩ := c.exs _ (by simpa using hk.1)
                exact s_raise c.calm c.tk hA hm (c.gl hk.2.1) hk.2.2
              · exact ps_bad
            · exact ps_bad
        · exact ps_bad
    | _ => exact ps_bad
end
end MP
/-! MiniPy H1: a law whose def keeps its promise where no object is being shown. -/
namespace MP
open PySem PySem.Spec PyProof.Rows L2
/-- the heap of a law's call: the script at a (tracked or written), the empty tables at T -/
def H0 (tr : Bool) (a : Addr) (T : List Addr) (ob : Obj) (xs : List V) : Hp := fun b => if b ∈ T then some (.tbl #[]) else if tr = true ∧ b = a then some (.frz ob (.lst xs)) else none
section
variable {tr : Bool} {a : Addr} {T : List Addr} {ob : Obj} {xs : List V}
theorem H0_is {b : Addr} {u : HO} (h : H0 tr a T ob xs b = some u) : (b ∈ T ∧ u = .tbl #[]) ∨ (b = a ∧ tr = true ∧ u = .frz ob (.lst xs)) := by
  unfold H0 at h
  split at h
  · cases h
    exact .inl ⟨by assumption, rfl⟩
  · split at h
    · rename_i q
      cases h
      exact .inr ⟨q.2, q.1, rfl⟩
    · cases h
theorem H0_tbl {b : Addr} (h : b ∈ T) : H0 tr a T ob xs b = some (.tbl #[]) := if_pos h
end
section
variable {P : Program} {w : World} {K : PySem.W.Frag} {mg mb : Str → Option Value} {CX : CXT} {fa a : Addr} {cs : List (Addr × Addr)} {fd : FuncData} {x : Str} {sp : Sp} {s : Shared} {vs : List Value} {ns : List Int}
/-- what the head says of the heap at the call -/
structure HdC (K : PySem.W.Frag) (mg mb : Str → Option Value) (cs : List (Addr × Addr)) (a : Addr) (vs : List Value) (s : Shared) : Prop where
  kin : K.In s.heap
  glob : s.heap.Ns mainGlobals mg
  blt : s.heap.Ns builtinsNs mb
  boot : ∀ x : Str, x ≠ "__name__" → mb x = bootBuiltins x
  lim : s.heap.NoLimit
  gens : s.gens = #[]
  tbl : ∀ p ∈ cs, s.heap.get? p.2 = some { cls := .none, data := .fields #[] }
  out : ∀ p ∈ cs, K.lookup p.2 = none
  code : ∀ p ∈ cs, PySem.W.CodeHd s.heap p.1 p.2
  mod : ∃ (bm : Addr) (ob : Obj), mg "__builtins__" = some (.ref bm) ∧ bm ≠ builtinsNs ∧ s.heap.get? bm = some ob ∧ ob.cls = .type "module" ∧ ob.dict = some builtinsNs ∧ ob.data = .plain
  scr : s.heap.get? a = some { cls := .type "list", data := .seq vs.toArray }
theorem HdC.tab (h : HdC K mg mb cs a vs s) {b : Addr} (hb : b ∈ cs.map (·.2)) : s.heap.get? b = some { cls := .none, data := .fields #[] } := by
  obtain ⟨p, hp, rfl⟩ := List.mem_map.mp hb
  exact h.tbl p hp
/-- what is untracked stands in the base -/
theorem HdC.un (h : HdC K mg mb cs a vs s) {tr : Bool} {xs : List V} {ob : Obj} {b : Addr} {o : Obj} (e : s.heap.get? b = some o) (h1 : tr = true → ∀ v n, o.data ≠ .seq v n) (h2 : o.data ≠ .fields #[]) : H0 tr a (cs.map (·.2)) ob xs b = none := by
  cases q : H0 tr a (cs.map (·.2)) ob xs b with
  | none => rfl
  | some u =>
    rcases H0_is q with ⟨z, _⟩ | ⟨z, ht, _⟩
    · rw [h.tab z] at e
      cases e
      exact absurd rfl h2
    · rw [z, h.scr] at e
      cases e
      exact absurd rfl (h1 ht _ _)
theorem HdC.base (h : HdC K mg mb cs a vs s) {tr : Bool} (ht : tr = true → K.lookup a = none) {xs : List V} {ob : Obj} :
    L2.Mod K mg (hidT s.heap (H0 tr a (cs.map (·.2)) ob xs)) ∧ ∀ p ∈ cs, LamX.TabB (hidT s.heap (H0 tr a (cs.map (·.2)) ob xs)) mg p.1 p.2 := by
  have nodict : ∀ {b : Addr} {o : Obj} {es : Array DictEntry} {ep : Nat}, s.heap.get? b = some o → o.data = .dict es ep → H0 tr a (cs.map (·.2)) ob xs b = none := fun {b o es ep} e d => h.un e (fun _ v n z => by rw [d] at z; cases z) (fun z => by rw [d] at z; cases z)
  have ns : ∀ {b : Addr} {m : Str → Option Value}, s.heap.Ns b m → (hidT s.heap (H0 tr a (cs.map (·.2)) ob xs)).Ns b m := fun ⟨o, es, ep, e, d, r⟩ => ⟨o, es, ep, hidT_get e (nodict e d), d, r⟩
  refine ⟨⟨fun b o e => ?_, ns h.glob, ⟨mb, ns h.blt, h.boot⟩, ?_⟩, fun p hp => ⟨?_, ?_, fun z => ?_⟩⟩
  · refine hidT_get (h.kin b o e) ?_
    cases q : H0 tr a (cs.map (·.2)) ob xs b with
    | none => rfl
    | some u =>
      rcases H0_is q with ⟨z, _⟩ | ⟨z, hk, _⟩
      · obtain ⟨p, hp, rfl⟩ := List.mem_map.mp z
        rw [h.out p hp] at e
        cases e
      · rw [z, ht hk] at e
        cases e
  · obtain ⟨mc, k1, k2⟩ := h.lim
    exact ⟨mc, ns k1, k2⟩
  · obtain ⟨o, us, file, tf, flags, tg, inF, text, tt, e1, r1, r2, r3, rest⟩ := h.code p hp
    refine ⟨o, us, file, tf, flags, tg, inF, text, tt, hidT_get e1 (h.un e1 (fun _ v n z => by rw [r2] at z; cases z) fun z => ?_), r1, r2, r3, rest⟩
    rw [r2] at z
    cases z
    simp at r3
  · obtain ⟨bm, o, b1, b2, b3, b4, b5, b6⟩ := h.mod
    have no : ∀ {b : Addr} {o' : Obj}, s.heap.get? b = some o' → o'.data ≠ .plain → bm ≠ b := fun {b o'} e d z => by
      rw [z, e] at b3
      cases b3
      exact d b6
    obtain ⟨og, es, ep, eg, dg, _⟩ := h.glob
    exact ⟨bm, o, b1, b2, no eg (fun z => by rw [dg] at z; cases z), no (h.tbl p hp) (fun z => by cases z), hidT_get b3 (h.un b3 (fun _ v n z => by rw [b6] at z; cases z) fun z => by rw [b6] at z; cases z), b4, b5, b6⟩
  · obtain ⟨og, es, ep, eg, dg, _⟩ := h.glob
    rw [z, h.tbl p hp] at eg
    cases eg
    cases dg
/-- the call of the law's def -/
theorem law_at (h : HdC K mg mb cs a vs s) (hi : IntsAre vs ns) (hl : ns.length ≤ sizeLine) (F : ∀ base : Heap, K.In base → base.Ns mainGlobals mg → (∀ p ∈ cs, LamX.TabB base mg p.1 p.2) → FnAt P w K mg base CX callerA fa fd [x] sp) (hbind : ∀ (s : Shared) (u : Value), BindsTo s fd ⟨[u], []⟩ [(x, u)])
    (hsp : ∀ H : Hp, (∀ p ∈ cs, H p.2 = some (.tbl #[])) → SqL K H a (ns.map V.int) → sp [.ref a] H (fun v _ => v = .bl true) fun _ _ _ => False) (hCX : ∀ H e s', CX [] H s (fun _ _ _ => False) e s' → False) :
    codeAny (model P w) callerA (.call (.ref fa) ⟨[.ref a], []⟩) (fun r s' => r = .ok (.ret (.bool true)) ∧ OldK s.heap s'.heap ∧ s'.os = s.os ∧ AllBare s'.gens) s := by
  have rv := vals_ints hi
  have vl : vs.length ≤ sizeLine := by rw [hi.length]; exact hl
  have core : ∀ tr : Bool, (tr = true → K.lookup a = none) → (tr = false → SqL K (H0 tr a (cs.map (·.2)) { cls := .type "list", data := .seq vs.toArray } (ns.map V.int)) a (ns.map V.int)) →
      codeAny (model P w) callerA (.call (.ref fa) ⟨[.ref a], []⟩) (fun r s' => r = .ok (.ret (.bool true)) ∧ OldK s.heap s'.heap ∧ s'.os = s.os ∧ AllBare s'.gens) s := by
    intro tr ht hq
    obtain ⟨hM, TB⟩ := h.base (ob := { cls := .type "list", data := .seq vs.toArray }) (xs := ns.map V.int) ht
    generalize hH : H0 tr a (cs.map (·.2)) { cls := .type "list", data := .seq vs.toArray } (ns.map V.int) = H at hM TB hq
    have aT : a ∉ cs.map (·.2) := fun z => by
      have q := h.tab z
      rw [h.scr] at q
      have z' := congrArg Obj.data (Option.some.inj q)
      cases z'
    have hT : ∀ p ∈ cs, H p.2 = some (.tbl #[]) := fun p hp => by
      rw [← hH]
      exact H0_tbl (List.mem_map.mpr ⟨p, hp, rfl⟩)
    have sq : SqL K H a (ns.map V.int) := by
      cases tr with
      | false => exact hq rfl
      | true => exact .inl (.inr ⟨_, by rw [← hH]; unfold H0; rw [if_neg aT, if_pos ⟨rfl, rfl⟩]⟩)
    have ok : HOk P w H s.heap := fun b o e => by
      rw [← hH] at e
      rcases H0_is e with ⟨z, rfl⟩ | ⟨rfl, _, rfl⟩
      · exact h.tab z
      · exact ⟨h.scr, by rw [List.length_map]; exact hl, vs, _, rv, h.scr⟩
    have e0 : Env0 P w K mg (hidT s.heap H) callerA [] s H := ⟨rfl, hM, fun b o e => of_hidT e, Nat.le_of_eq (hidT_size _ _), trivial, fun b hb => (nomatch hb), ok, .of_eq h.gens⟩
    refine codeAny_mono ((F _ hM.kin hM.glob TB).run [] s H ⟨[.ref a], []⟩ [.ref a] [.ref a] _ _ e0 (hbind s (.ref a)) (.cons (show RelV (.ref a) (Value.ref a) from rfl) .nil) (hsp H hT sq)) fun r s' z => ?_
    rcases r with e | fl
    · exact (hCX H e s' z).elim
    cases fl with
    | next => exact z.elim
    | brk => exact z.elim
    | cont => exact z.elim
    | ret u =>
      obtain ⟨v, H', os, bare, un, ok', rl, qv⟩ := z
      replace qv : v = .bl true := qv
      subst qv
      cases (show u = Value.bool true from rl)
      have kept : ∀ b o, b ∉ cs.map (·.2) → s.heap.get? b = some o → s'.heap.get? b = some o := fun b o nb e => by
        cases q : H b with
        | none => exact un.keep b o e q (fun z => nomatch z) (by simp)
        | some u =>
          have q' := q
          rw [← hH] at q'
          rcases H0_is q' with ⟨z, _⟩ | ⟨_, _, rfl⟩
          · exact absurd z nb
          · have e1 := (ok b _ q).1
            rw [e] at e1
            rw [(ok' b _ (un.frzs b _ _ q)).1]
            exact e1.symm
      have more : ∀ b ∈ cs.map (·.2), ∃ m : Array Value, s'.heap.get? b = some { cls := .none, data := .fields m } := fun b hb => by
        obtain ⟨p, hp, rfl⟩ := List.mem_map.mp hb
        obtain ⟨m, z⟩ := un.tbls p.2 #[] (hT p hp)
        exact ⟨_, ok' p.2 _ z⟩
      refine ⟨rfl, ⟨fun b o e => ?_, fun b o e => ?_⟩, os, bare⟩
      · by_cases hb : b ∈ cs.map (·.2)
        · obtain ⟨m, hm⟩ := more b hb
          rw [h.tab hb] at e
          cases e
          obtain ⟨p, hp, rfl⟩ := List.mem_map.mp hb
          exact .inr (.inl ⟨((h.code p hp).tab (h.tbl p hp)).isCodeTable, rfl, #[], m, rfl, by rw [Array.empty_append]; exact hm⟩)
        · exact .inl (kept b o hb e)
      · by_cases hb : b ∈ cs.map (·.2)
        · obtain ⟨m, hm⟩ := more b hb
          exact ⟨_, hm⟩
        · exact ⟨o, kept b o hb e⟩
  cases hk : K.lookup a with
  | none => exact core true (fun _ => hk) (fun z => nomatch z)
  | some o =>
    have e := h.kin a o hk
    rw [h.scr] at e
    cases e
    exact core false (fun z => nomatch z) fun _ => .inr ⟨_, vs.toArray, _, hk, rfl, rfl, rfl, by rw [List.size_toArray]; exact vl, by simpa using rv⟩
/-- the walk of a law -/
theorem walk_at {l : PySem.W.OpenLaw} {n : Nat} {q : Program} {loose : List Str} {XP : (Str → Option Value) → Heap → Prop} {YP : World → Heap → Prop} {d : DefRec} {K : Params → PySem.W.Frag} {CX : World → CXT} {x : Str} (hn : l.most = some n) (hn2 : n ≤ sizeLine) (hdf : d.params.defaults = []) (hY : ∀ (w : World) (h : Heap), YP w h → (K w.params).In h)
    (F : ∀ (w : World) (mg : Str → Option Value) (fa : Addr) (h : Heap), YP w h → (K w.params).In h → h.Ns mainGlobals mg → mg d.name = some (.ref fa) →
      ∃ (fd : FuncData) (cs : List (Addr × Addr)) (sp : Sp), (∀ p ∈ cs, h.get? p.2 = some { cls := .none, data := .fields #[] }) ∧ (∀ p ∈ cs, (K w.params).lookup p.2 = none) ∧ (∀ p ∈ cs, PySem.W.CodeHd h p.1 p.2) ∧ (∀ (s : Shared) (u : Value), BindsTo s fd ⟨[u], []⟩ [(x, u)]) ∧
        (∀ (H : Hp) (a : Addr) (ns : List Int), ns.length ≤ n → (∀ z ∈ ns, Builtin.Int.intBits z ≤ 1048576) → (∀ p ∈ cs, H p.2 = some (.tbl #[])) → SqL (K w.params) H a (ns.map V.int) → sp [.ref a] H (fun v _ => v = .bl true) fun _ _ _ => False) ∧
        ∀ base : Heap, (K w.params).In base → base.Ns mainGlobals mg → (∀ p ∈ cs, LamX.TabB base mg p.1 p.2) → FnAt l.prog w (K w.params) mg base (CX w) callerA fa fd [x] sp)
    (hCX : ∀ (w : World) (H : Hp) (s : Shared) (e : Value) (s' : Shared), CX w [] H s (fun _ _ _ => False) e s' → False) : PySem.W.WalkO q loose XP YP l.row.toRowW d [] (fun f vs => PySem.call f vs) := by
  refine Att.attach_callB hn hdf fun w s₀ s₁ mg mb fa o pm cd doc a vs ns G Y ho hd hcd hmg hobj hints hlen hbits hg => ?_
  have KX := hY w _ Y
  obtain ⟨fd, cs, sp, hT, nT, C, hb, hsp, hF⟩ := F w mg fa _ Y KX G.T.g hmg
  exact law_at ⟨KX, G.T.g, G.T.b, G.T.builtins, G.T.nolimit, hg, hT, nT, C, G.T.bmain, hobj⟩ hints (Nat.le_trans hlen hn2) hF hb (fun H hH hS => hsp H a ns hlen hbits hH hS) fun H e s' => hCX w H s₁ e s'
end
end MP
/-! MiniPy 15: all defs of a text. -/
namespace MP
open PySem PySem.Spec PyProof.Rows L2

structure DefI where
  x : Str
  st : Stmt
  N : List Str
  ps : List Str
  kp : Bool := false
  mu : List (Nat × Nat) := []
  lam : Bool := false
  dk : List (Nat × Nat) := []
  gd : Bool := false
  pu : Bool := false
/-- the body of a class -/
def clsBody : Stmt → List Stmt
  | .ClassDef (body := b) .. => b
  | _ => []
/-- a text: its defs, its constants, the built-in names that it uses -/
structure Txt where
  ds : List DefI
  cons : List (Str × D)
  blts : List Str
  exs : List Str := []
  xvs : List (Str × Str) := []
  mets : List (Str × MetI) := []
def defsAt : Nat → List DefI → List (Str × Nat)
  | _, [] => []
  | i, d :: r => (d.x, i) :: defsAt (i + 1) r
def ctxOf (t : Txt) (d : DefI) : Ctx := { N := d.N, sc := defScope d.st, defs := defsAt 0 t.ds, cons := t.cons, blts := t.blts, mu := d.mu, exs := t.exs, xvs := t.xvs, mets := t.mets, lam := d.lam, dk := d.dk, gd := d.gd, gds := (t.ds.filter (·.gd)).map (·.x) }
def fdOf (t : Txt) (d : DefI) : FD := ⟨d.kp, d.ps.length, d.N.length, cSs (cS (cET 40).1 (cET 40).2 (ctxOf t d) 40) (defBody d.st), d.pu⟩
def tabOf (t : Txt) : List FD := t.ds.map (fdOf t)
theorem defsAt_is : ∀ {ds : List DefI} {i n : Nat} {x : Str}, (defsAt i ds).lookup x = some n → ∃ j d, n = i + j ∧ ds[j]? = some d ∧ d.x = x
  | [], _, _, _, h => by cases h
  | d :: r, i, n, x, h => by
    unfold defsAt at h
    rw [List.lookup_cons] at h
    split at h
    · rename_i e
      cases h
      exact ⟨0, d, rfl, rfl, (eq_of_beq e).symm⟩
    · obtain ⟨j, d', h1, h2, h3⟩ := defsAt_is h
      exact ⟨j + 1, d', by omega, by simpa using h2, h3⟩
section
variable [TabC]
/-- what a text's names are -/
structure TxtOk (t : Txt) (K : PySem.W.Frag) (mg : Str → Option Value) : Prop where
  fns : ∀ (i : Nat) (d : DefI), t.ds[i]? = some d → ∃ f fd, Fun K d.x d.x d.st f fd ∧ mg d.x = some (.ref f) ∧ Binds K fd d.ps []
  sc : ∀ d ∈ t.ds, FnScope d.N d.ps (defScope d.st)
  blt : ∀ x ∈ t.blts, mg x = none
  con : ∀ x d, t.cons.lookup x = some d → ∃ v u, mg x = some u ∧ RelV v u ∧ ∀ φ H, Rep K φ H d v
  exs : ∀ x ∈ t.exs, ∃ A, ExcOk K x A ∧ mg x = some (.ref A)
  xvs : ∀ x n, t.xvs.lookup x = some n → ∃ A, XvOk K x n A ∧ mg x = some (.ref A)
  mets : ∀ x mi, t.mets.lookup x = some mi → MetOk K mg x mi
  vals : ∀ (n : Nat) (f : Addr), TabC.F[n]? = some f → ∃ d : DefI, t.ds[n]? = some d ∧ mg d.x = some (.ref f) ∧ d.gd = false
/-- the code objects of the defs that make lambdas, and their tables -/
def LamT (t : Txt) (K : PySem.W.Frag) (mg : Str → Option Value) (base : Heap) : Prop := ∀ d ∈ t.ds, d.lam = true → ∀ (f : Addr) (cdv : Value),
  (∃ (oc : Value) (od : Option Addr) (kV doc pm : Value) (an : Option Addr) (ct : Value) (osl : Array (Option Value)), K.lookup f = some ⟨oc, od, .func (PySem.W.fnOf d.x d.x (defArgs d.st) (defBody d.st) (defScope d.st) .none kV doc pm an cdv ct), osl⟩) →
  ∃ c P, cdv = .ref c ∧ LamX.TabB base mg c P ∧ (P, (d.x ++ ".<locals>.") ++ "<lambda>") ∈ TabC.T ∧ ∀ p ∈ TabC.T, p.1 = P → p.2 = (d.x ++ ".<locals>.") ++ "<lambda>"
theorem lamOk_of {P : Program} {w : World} {K : PySem.W.Frag} {mg : Str → Option Value} {base : Heap} {N : List Str} {x : Str} {sc : Scope} {f : Addr} {cdv : Value} {A : Around} {outer : List Env} {s : Shared} {H : Hp} {E : XK}
    (h : ∃ c T, cdv = .ref c ∧ LamX.TabB base mg c T ∧ (T, (x ++ ".<locals>.") ++ "<lambda>") ∈ TabC.T ∧ ∀ p ∈ TabC.T, p.1 = T → p.2 = (x ++ ".<locals>.") ++ "<lambda>") : LamOk (cxOf (L2.CX P w) P w K mg base N x sc f cdv A outer s H E) := by
  obtain ⟨c, T, h1, h2, h3, h4⟩ := h
  have e : (cxOf (L2.CX P w) P w K mg base N x sc f cdv A outer s H E).env.qual = (x ++ ".<locals>.") := rfl
  exact ⟨⟨c, T, h1, h2, by rw [e]; exact h3, by rw [e]; exact h4⟩⟩
theorem txt_ok {t : Txt} {P : Program} {w : World} {K : PySem.W.Frag} {mg : Str → Option Value} {base : Heap} (hwd : TabC.w = w) (ok : TxtOk t K mg) (hl : LamT t K mg base) (fuel : Nat) (k : Nat) : ∀ (i : Nat) (d : DefI), t.ds[i]? = some d → ∀ (f : Addr) (fd : FuncData), Fun K d.x d.x d.st f fd →
    FnB P w K mg base (L2.CX P w) d.gd k f fd d.ps (spG K (runF (tabOf t) fuel k i)) := by
  induction k using Nat.strongRecOn with
  | _ k ih =>
    intro i d hd f fd F
    cases k with
    | zero =>
      exact ⟨fun vs H Q E h => by
        obtain ⟨φ, M, args, m, r, p⟩ := h
        exact False.elim p, fun A hr hg => ⟨fun vs H Q E h => by
        obtain ⟨φ, M, args, m, r, p⟩ := h
        exact False.elim p, fun outer s H args us vs Q E he hb hv h => by
        obtain ⟨φ, M, args, m, r, p⟩ := h
        exact False.elim p⟩⟩
    | succ k =>
      have hS := ok.sc d (List.mem_of_getElem? hd)
      have facts : ∀ j, j < k + 1 → ∀ x n, (defsAt 0 t.ds).lookup x = some n → ∃ f fd ps d', d' ∈ t.ds ∧ d'.x = x ∧ FnB P w K mg base (L2.CX P w) d'.gd j f fd ps (spG K (runF (tabOf t) fuel j n)) ∧ mg x = some (.ref f) ∧ PySem.W.keepIn K (.ref f) = true ∧ Binds K fd ps [] := fun j hj x n hn => by
        obtain ⟨j', d', e, h1, h2⟩ := defsAt_is hn
        have e' : n = j' := by omega
        subst e' h2
        obtain ⟨f', fd', F', hm, hb⟩ := ok.fns n d' h1
        exact ⟨f', fd', d'.ps, d', List.mem_of_getElem? h1, rfl, ih j hj n d' h1 f' fd' F', hm, F'.kp, hb⟩
      have facF : ∀ j, j < k + 1 → ∀ n f, TabC.F[n]? = some f → ∃ fd ps, FnOk P w K mg base (L2.CX P w) j f fd ps (spG K (runF (tabOf t) fuel j n)) ∧ PySem.W.keepIn K (.ref f) = true ∧ Binds K fd ps [] := fun j hj n f hn => by
        obtain ⟨d', h1, h2, h3⟩ := ok.vals n f hn
        obtain ⟨f', fd', F', hm, hb⟩ := ok.fns n d' h1
        rw [h2] at hm
        cases hm
        exact ⟨fd', d'.ps, (ih j hj n d' h1 f fd' F').ok h3, F'.kp, hb⟩
      have gdIn : ∀ d' ∈ t.ds, d'.gd = true → ((t.ds.filter (·.gd)).map (·.x)).contains d'.x = true := fun d' h1 h2 => by
        rw [List.contains_iff_mem]
        exact List.mem_map.mpr ⟨d', List.mem_filter.mpr ⟨h1, h2⟩, rfl⟩
      have hT : (tabOf t)[i]? = some (fdOf t d) := by
        show (t.ds.map (fdOf t))[i]? = _
        rw [List.getElem?_map, hd]
        rfl
      refine ⟨spG_len hT, fun A hr0 hg => ?_⟩
      refine fnGA (fuel := fuel) hr0 F hS (mss := cSs (cS (cET 40).1 (cET 40).2 (ctxOf t d) 40) (defBody d.st)) (kp := d.kp) (pu := d.pu) hT fun cdv outer s H E hcd hr => ?_
      have cx : CxOk (ctxOf t d) (cxOf (L2.CX P w) P w K mg base d.N d.x (defScope d.st) f cdv A outer s H E) (fun c d _ H => E c d H) (clOf (tabOf t) fuel k) :=
        { N := rfl, nd := hS.nd, sc := rfl, fn := fun _ _ => rfl, calm := rfl, units := by
            have := hr.un
            show (A.deeper _).units + 64 < cLine
            omega
          wd := hwd
          blt := ok.blt
          con := ok.con
          gd := fun h => hg h
          defs := fun x n hn hgd => by
            obtain ⟨f', fd', ps, d', h1, h2, F', hm, hk, hb⟩ := facts k (Nat.lt_succ_self k) x n hn
            exact ⟨f', fd', ps, by rw [clOf_call]; exact F'.at_ _ hr fun z => hg (hgd (by rw [← h2]; exact gdIn d' h1 z)), hm, hk, hb⟩
          exs := ok.exs
          xvs := ok.xvs
          mets := ok.mets
          lam := fun h => lamOk_of (hl d (List.mem_of_getElem? hd) h f cdv hcd)
          low := fun h => by
            obtain ⟨j, rfl, e⟩ := clOf_low h
            refine ⟨j, hr, fun x n hn hgd => ?_, fun n f hn => ?_⟩
            · rw [e]
              obtain ⟨f', fd', ps, d', h1, h2, F', hm, hk, hb⟩ := facts j (by omega) x n hn
              refine ⟨f', fd', ps, F'.ok ?_, hm, hk, hb⟩
              cases z : d'.gd with
              | false => rfl
              | true =>
                have := gdIn d' h1 z
                rw [h2] at this
                exact absurd (hgd.symm.trans this) (by decide)
            · rw [e]
              exact facF j (by omega) n f hn
          fns := fun n f' hn => by
            obtain ⟨fd', ps, F', hk, hb⟩ := facF k (Nat.lt_succ_self k) n f' hn
            exact ⟨k, fd', ps, by rw [clOf_call]; exact F', hr, hk, hb⟩
          tk := takes_of rfl rfl rfl rfl }
      exact ok_ss (fun s => ok_S (ok_ET 40).1 (ok_ET 40).2 cx (passes_of rfl) 40 s) _
/-! ### the law's head -/
theorem law_sp {K : PySem.W.Frag} {T : List FD} {fuel k i : Nat} {H : Hp} {a : Addr} {ns : List Int} (h : ∃ M', runF T fuel k i [.scr (ns.map .int)] [] = .ok (.bl true) M') (hT : LamX.Tabs TabC.T H) (sa : ScrAt K ⟨[], []⟩ H a (ns.map V.int)) :
    spG K (runF T fuel k i) [.ref a] H (fun v _ => v = .bl true) fun _ _ _ => False := by
  obtain ⟨M', h⟩ := h
  refine ⟨⟨[], []⟩, [], [.scr (ns.map .int)], ⟨List.nodup_nil, rfl, fun b hb => by simp at hb, hT, fun n a d h1 _ => by simp at h1⟩, .cons (.scr sa (reps_ints ns)) .nil, ?_⟩
  rw [h]
  intro φ' H' e m v r
  cases r
  rfl
/-! ### a text's facts, one by one -/
def DF (K : PySem.W.Frag) (mg : Str → Option Value) (d : DefI) : Prop := ∃ f fd, Fun K d.x d.x d.st f fd ∧ mg d.x = some (.ref f) ∧ Binds K fd d.ps []
inductive DFs (K : PySem.W.Frag) (mg : Str → Option Value) : List DefI → Prop
  | nil : DFs K mg []
  | cons {d : DefI} {ds : List DefI} : DF K mg d → DFs K mg ds → DFs K mg (d :: ds)
theorem DFs_of {K : PySem.W.Frag} {mg : Str → Option Value} : ∀ {ds : List DefI}, DFs K mg ds → ∀ (i : Nat) (d : DefI), ds[i]? = some d → DF K mg d
  | [], _, _, _, h => by simp at h
  | d :: ds, h, i, e, he => by
    cases h with
    | cons h1 h2 =>
      cases i with
      | zero =>
        cases he
        exact h1
      | succ i => exact DFs_of h2 i e (by simpa using he)
def scB (d : DefI) : Bool := decide ((defScope d.st).kind = .function) && !(defScope d.st).isCoroutine && !(defScope d.st).isGenerator && decide d.N.Nodup && decide (d.N.take d.ps.length = d.ps) &&
  d.ps.all (fun x => decide ((defScope d.st).names.lookup x = some .local) || decide ((defScope d.st).names.lookup x = some .cell)) && (defScope d.st).names.all (fun y => !decide (y.2 = .free))
theorem scB_ok {d : DefI} (h : scB d = true) : FnScope d.N d.ps (defScope d.st) := by
  unfold scB at h
  simp only [Bool.and_eq_true, Bool.not_eq_true', decide_eq_true_eq, List.all_eq_true, Bool.or_eq_true, decide_eq_false_iff_not] at h
  obtain ⟨⟨⟨⟨⟨⟨h1, h2⟩, h3⟩, h4⟩, h5⟩, h6⟩, h7⟩ := h
  exact ⟨h1, h2, h3, h4, h5, h6, h7⟩
theorem scs_ok {ds : List DefI} (h : ds.all scB = true) : ∀ d ∈ ds, FnScope d.N d.ps (defScope d.st) := fun d hd => scB_ok (List.all_eq_true.mp h d hd)
theorem cons_ok {K : PySem.W.Frag} {mg : Str → Option Value} {l : List (Str × D)} (h : ∀ p ∈ l, ∃ (i : Int) (t : Tok), p.2 = .int i ∧ mg p.1 = some (.int i t)) (x : Str) (d : D) (hx : l.lookup x = some d) : ∃ v u, mg x = some u ∧ RelV v u ∧ ∀ φ H, Rep K φ H d v := by
  obtain ⟨i, t, h1, h2⟩ := h _ (PySem.mem_of_lookup hx)
  refine ⟨.int i, .int i t, h2, ⟨t, rfl⟩, fun φ H => ?_⟩
  replace h1 : d = .int i := h1
  rw [h1]
  exact .int i
theorem scr_at_start {K : PySem.W.Frag} {H : Hp} {a : Addr} {ns : List Int} (hs : SqL K H a (ns.map V.int)) : ScrAt K ⟨[], []⟩ H a (ns.map V.int) := by
  rcases hs with (h1 | ⟨o, h1⟩) | h1
  · exact .inl ⟨_, h1, .inl rfl, by simp [Out]⟩
  · exact .inl ⟨_, h1, .inr ⟨o, rfl⟩, by simp [Out]⟩
  · exact .inr h1
end
/-! ### a text with lambdas -/
/-- tabs: for each def that makes lambdas its name, its code object, its table -/
abbrev Tabs3 := List (Str × Addr × Addr)
def tabT (tabs : Tabs3) : List (Addr × Str) := tabs.map fun q => (q.2.2, (q.1 ++ ".<locals>.") ++ "<lambda>")
def lamChk (K : PySem.W.Frag) (tabs : Tabs3) (ds : List DefI) : Bool := ds.all fun d => !d.lam || K.all fun p => match p.2.data with
  | .func fd => !(decide (fd.qualname = d.x)) || tabs.any fun q => decide (q.1 = d.x) && (match fd.code with | .ref c => decide (c = q.2.1) | _ => false)
  | _ => true
theorem lk_mem {β : Type} : ∀ {l : List (Addr × β)} {a : Addr} {b : β}, l.lookup a = some b → (a, b) ∈ l
  | [], _, _, h => by cases h
  | (k, v) :: r, a, b, h => by
    rw [List.lookup_cons] at h
    split at h
    · rename_i e
      cases h
      have e' : a = k := eq_of_beq e
      rw [e']
      exact List.mem_cons_self
    · exact List.mem_cons_of_mem _ (lk_mem h)
theorem lamChk_is {K : PySem.W.Frag} {tabs : Tabs3} {ds : List DefI} (h : lamChk K tabs ds = true) {d : DefI} (hd : d ∈ ds) (hl : d.lam = true) {f : Addr} {cdv oc kV doc pm ct : Value} {od an : Option Addr} {osl : Array (Option Value)}
    (hf : K.lookup f = some ⟨oc, od, .func (PySem.W.fnOf d.x d.x (defArgs d.st) (defBody d.st) (defScope d.st) .none kV doc pm an cdv ct), osl⟩) : ∃ q ∈ tabs, q.1 = d.x ∧ cdv = .ref q.2.1 := by
  unfold lamChk at h
  have h1 := List.all_eq_true.mp h d hd
  rw [hl, Bool.not_true, Bool.false_or] at h1
  have h2 := List.all_eq_true.mp h1 (f, _) (lk_mem hf)
  simp only [decide_true, Bool.not_true, Bool.false_or, List.any_eq_true, Bool.and_eq_true, decide_eq_true_eq] at h2
  obtain ⟨q, hq, e1, e2⟩ := h2
  refine ⟨q, hq, e1, ?_⟩
  cases cdv <;> first | cases e2 | skip
  rw [of_decide_eq_true e2]
theorem law_headL {l : PySem.W.OpenLaw} {k i fuel : Nat} {q : Program} {loose : List Str} {XP : (Str → Option Value) → Heap → Prop} {YP : World → Heap → Prop} {dr : DefRec} {K : Params → PySem.W.Frag} {t : Txt} {d : DefI} {x : Str} (tabs : Tabs3) (fns : List Addr)
    (hn : l.most = some 63) (hdf : dr.params.defaults = []) (hd : t.ds[i]? = some d) (hx : dr.name = d.x) (hps : d.ps = [x])
    (hY : ∀ (w : World) (h : Heap), YP w h → (K w.params).In h)
    (F : ∀ (w : World), letI : TabC := ⟨tabT tabs, fns, w⟩; ∀ (mg : Str → Option Value) (h : Heap), (K w.params).In h → h.Ns mainGlobals mg → TxtOk t (K w.params) mg)
    (hP : ∀ (w : World) (h : Heap), YP w h → ∀ q ∈ tabs, h.get? q.2.2 = some { cls := .none, data := .fields #[] })
    (hN : ∀ w : World, ∀ q ∈ tabs, (K w.params).lookup q.2.2 = none) (hC : ∀ w : World, ∀ q ∈ tabs, PySem.W.codeHdIn (K w.params) q.2.1 q.2.2 = true)
    (hD : tabs.all (fun q => tabs.all fun r => !(decide (q.2.2 = r.2.2)) || decide (q.1 = r.1)) = true) (hL : ∀ w : World, lamChk (K w.params) tabs t.ds = true)
    (hlaw : ∀ ns : List Int, ns.length ≤ 63 → ∃ M', runF (tabOf t) fuel k i [.scr (ns.map .int)] [] = .ok (.bl true) M')
    (hbt : ∀ (kV doc pm : Value) (an : Option Addr) (cdv ct : Value) (s : Shared) (u : Value), BindsTo s (PySem.W.fnOf d.x d.x (defArgs d.st) (defBody d.st) (defScope d.st) .none kV doc pm an cdv ct) ⟨[u], []⟩ [(x, u)]) (hr : Room k callerA) :
    PySem.W.WalkO q loose XP YP l.row.toRowW dr [] (fun f vs => PySem.call f vs) := by
  have same : ∀ q ∈ tabs, ∀ r ∈ tabs, q.2.2 = r.2.2 → q.1 = r.1 := fun q hq r hr e => by
    have h1 := List.all_eq_true.mp (List.all_eq_true.mp hD q hq) r hr
    rw [Bool.or_eq_true, Bool.not_eq_true', decide_eq_false_iff_not, decide_eq_true_eq] at h1
    exact h1.elim (fun z => absurd e z) id
  refine walk_at (l := l) (n := 63) (x := x) (K := K) (CX := fun w => L2.CX l.prog w) hn (by decide) hdf hY (fun w mg fa h Y KX G hmg => ?_) (fun w H s e s' h => ?_)
  · letI : TabC := ⟨tabT tabs, fns, w⟩
    have ok := F w mg h KX G
    obtain ⟨f, fd, F1, hm, hb⟩ := ok.fns i d hd
    rw [hx, hm] at hmg
    cases hmg
    refine ⟨fd, tabs.map fun q => q.2, spG (K w.params) (runF (tabOf t) fuel k i), fun p hp => ?_, fun p hp => ?_, fun p hp => ?_, fun s v => ?_, fun H a ns hl hbits hT hs => law_sp (hlaw ns hl) (fun p hp => ?_) (scr_at_start hs), fun base hB hG TB => ?_⟩
    · obtain ⟨q, hq, rfl⟩ := List.mem_map.mp hp
      exact hP w h Y q hq
    · obtain ⟨q, hq, rfl⟩ := List.mem_map.mp hp
      exact hN w q hq
    · obtain ⟨q, hq, rfl⟩ := List.mem_map.mp hp
      exact PySem.W.codeHd_of_K KX (hC w q hq)
    · obtain ⟨oc, od, kV, doc, pm, an, cdv, ct, osl, e, lk, hcd⟩ := F1.ex
      rw [e]
      exact hbt kV doc pm an cdv ct s v
    · obtain ⟨q, hq, rfl⟩ := List.mem_map.mp hp
      exact LamX.TabS.nil (hT q.2 (List.mem_map.mpr ⟨q, hq, rfl⟩))
    · have q := txt_ok (P := l.prog) (w := w) (base := base) rfl ok (fun d' hd' hl' f' cdv' hf' => by
        obtain ⟨oc, od, kV, doc, pm, an, ct, osl, hf'⟩ := hf'
        obtain ⟨q, hq, e1, rfl⟩ := lamChk_is (hL w) hd' hl' hf'
        refine ⟨q.2.1, q.2.2, rfl, TB q.2 (List.mem_map.mpr ⟨q, hq, rfl⟩), List.mem_map.mpr ⟨q, hq, by rw [e1]⟩, fun p hp z => ?_⟩
        obtain ⟨r, hr2, rfl⟩ := List.mem_map.mp hp
        rw [← e1, same q hq r hr2 z.symm]) fuel k i d hd _ fd F1
      rw [hps] at q
      exact q.at_ callerA hr fun _ => rfl
  · obtain ⟨_, _, _, _, _, _, _, _, _, _, _, _, z⟩ := h
    exact z
end MP
/-! MiniPy 16: reckoning in the small language. -/
namespace MP

theorem run_eq {T : List FD} {fuel k f : Nat} {fd : FD} {args : List D} {M : List D} (h : T[f]? = some fd) (hl : args.length = fd.np) (hp : fd.pu = false := by rfl) :
    runF T fuel (k + 1) f args M = fin fd.kp M (exSs (clOf T fuel k) fd.body (args.map some ++ List.replicate (fd.nl - fd.np) none) M) := by
  rw [runF_succ]
  unfold runB
  rw [h]
  show (if args.length = fd.np then _ else _) = _
  rw [if_pos hl, hp, if_neg Bool.false_ne_true]
/-- a def with a small heap of its own answers the same wherever it is called -/
theorem run_pu {T : List FD} {fuel k f : Nat} {fd : FD} {args : List D} (h : T[f]? = some fd) (hp : fd.pu = true) (M : List D) : runF T fuel (k + 1) f args M = (match runF T fuel (k + 1) f args [] with | .ok d _ => .ok d M | .exc c e _ => .exc c e M | .bad => .bad) := by
  rw [runF_succ]
  unfold runB
  rw [h]
  dsimp only
  rw [hp]
  split
  · rw [if_pos rfl]
    split
    · unfold finP
      cases fin false [] (exSs (clOf T fuel k) fd.body (args.map some ++ List.replicate (fd.nl - fd.np) none) []) with
      | ok d N =>
        dsimp only
        split <;> rfl
      | exc c e N =>
        dsimp only
        split <;> rfl
      | bad => rfl
    · rfl
  · rfl
theorem run_ok {T : List FD} {fuel k f : Nat} {fd : FD} {args : List D} {d : D} {M0 : List D} (h : T[f]? = some fd) (hp : fd.pu = true) (e : runF T fuel (k + 1) f args [] = .ok d M0) (M : List D) : runF T fuel (k + 1) f args M = .ok d M := by
  rw [run_pu h hp M, e]
theorem run_exc {T : List FD} {fuel k f : Nat} {fd : FD} {args : List D} {c : PySem.Str} {d : D} {M0 : List D} (h : T[f]? = some fd) (hp : fd.pu = true) (e : runF T fuel (k + 1) f args [] = .exc c d M0) (M : List D) : runF T fuel (k + 1) f args M = .exc c d M := by
  rw [run_pu h hp M, e]
/-! ### one rule for each form -/
section
variable (cl : Cl) (L : Lo) (M : List D)
@[simp] theorem x_nil : exSs cl .nil L M = .next L M := rfl
@[simp] theorem x_cons (s : S) (ss : Ss) : exSs cl (.cons s ss) L M = (exS cl s L M).seq fun L1 M1 => exSs cl ss L1 M1 := rfl
@[simp] theorem x_asg (t : Tg) (e : E) : exS cl (.asg t e) L M = (evE cl e L M).then L fun d M1 => match asg t d L with | some L1 => .next L1 M1 | none => .bad := rfl
@[simp] theorem x_ex (e : E) : exS cl (.ex e) L M = (evE cl e L M).then L fun _ M1 => .next L M1 := rfl
@[simp] theorem x_ret (e : E) : exS cl (.ret e) L M = (evE cl e L M).then L fun d M1 => .ret d M1 := rfl
@[simp] theorem x_ite (c : E) (a b : Ss) : exS cl (.ite c a b) L M = (evE cl c L M).then L fun x M1 => (ofO (truth M1 x) M1).then L fun k M1 => if k then exSs cl a L M1 else exSs cl b L M1 := rfl
@[simp] theorem x_for (t : Tg) (it : I) (b : Ss) : exS cl (.for t it b) L M = (evI cl it L M).then L fun w M1 => forL w t (exSs cl b) w.items L M1 := rfl
@[simp] theorem x_setI (o i e : E) : exS cl (.setI o i e) L M = (evE cl e L M).then L fun v M1 => (evE cl o L M1).then L fun x M2 => (evE cl i L M2).then L fun y M3 => match setS M3 x y v with | some M4 => .next L M4 | none => .bad := rfl
@[simp] theorem x_aug (i : Nat) (o : Bop) (e : E) : exS cl (.aug i o e) L M = match L[i]? with
    | some (some x) => (evE cl e L M).then L fun y M1 => match x, y with | .int a, .int b => (match intS o a b with | some z => .next (L.set i (some (.int z))) M1 | none => .bad) | _, _ => .bad
    | _ => .bad := rfl
@[simp] theorem e_var (i : Nat) : evE cl (.var i) L M = match L[i]? with | some (some d) => .ok d M | _ => .bad := rfl
@[simp] theorem e_lit (d : D) : evE cl (.lit d) L M = .ok d M := rfl
@[simp] theorem e_bin (o : Bop) (a b : E) : evE cl (.bin o a b) L M = (evE cl a L M).bind fun x M1 => (evE cl b L M1).bind fun y M2 => ofO (binS M2 o x y) M2 := rfl
@[simp] theorem e_neg (a : E) : evE cl (.neg a) L M = (evE cl a L M).bind fun x M1 => match x with | .int i => .ok (.int (-i)) M1 | _ => .bad := rfl
@[simp] theorem e_cmp (o : Cop) (a b : E) : evE cl (.cmp o a b) L M = (evE cl a L M).bind fun x M1 => (evE cl b L M1).bind fun y M2 => ofO ((cmpS M2 o x y).map .bl) M2 := rfl
@[simp] theorem e_chain (o o' : Cop) (a b c : E) : evE cl (.chain o o' a b c) L M = (evE cl a L M).bind fun x M1 => (evE cl b L M1).bind fun y M2 => (ofO (cmpS M2 o x y) M2).bind fun k M2 =>
      if k then (evE cl c L M2).bind fun z M3 => ofO ((cmpS M3 o' y z).map .bl) M3 else .ok (.bl false) M2 := rfl
@[simp] theorem e_and (a b : E) : evE cl (.andE a b) L M = (evE cl a L M).bind fun x M1 => match x with | .bl true => evE cl b L M1 | .bl false => .ok (.bl false) M1 | _ => .bad := rfl
@[simp] theorem e_or (a b : E) : evE cl (.orE a b) L M = (evE cl a L M).bind fun x M1 => match x with | .bl false => evE cl b L M1 | .bl true => .ok (.bl true) M1 | _ => .bad := rfl
@[simp] theorem e_not (a : E) : evE cl (.notE a) L M = (evE cl a L M).bind fun x M1 => match x with | .bl b => .ok (.bl (!b)) M1 | _ => .bad := rfl
@[simp] theorem e_ite (c a b : E) : evE cl (.ite c a b) L M = (evE cl c L M).bind fun x M1 => (ofO (truth M1 x) M1).bind fun k M1 => if k then evE cl a L M1 else evE cl b L M1 := rfl
@[simp] theorem e_tru (a : E) : evE cl (.tru a) L M = (evE cl a L M).bind fun x M1 => (ofO (truth M1 x) M1).bind fun k M1 => .ok (.bl k) M1 := rfl
@[simp] theorem e_tup (es : Es) : evE cl (.tup es) L M = (evEs cl es L M).bind fun vs M1 => if vs.length ≤ lim then .ok (.tup vs) M1 else .bad := rfl
@[simp] theorem e_new (fr : Bool) (n : N) : evE cl (.new fr n) L M = (evN cl n L M).bind fun d M1 => if fr then .ok d M1 else .ok (.ref M1.length) (M1 ++ [d]) := rfl
@[simp] theorem e_call (f : Nat) (es : Es) : evE cl (.call f es) L M = (evEs cl es L M).bind fun vs M1 => cl.call f vs M1 := rfl
@[simp] theorem e_blt (b : Blt) (es : Es) : evE cl (.blt b es) L M = (evEs cl es L M).bind fun vs M1 => ofO (bltS M1 b vs) M1 := rfl
@[simp] theorem e_mth (m : Mth) (o : E) (es : Es) : evE cl (.mth m o es) L M = (evE cl o L M).bind fun x M1 => if mthK M1 x then (evEs cl es L M1).bind fun vs M2 => (match mthS M2 m x vs with | some (d, M3) => .ok d M3 | none => .bad) else .bad := rfl
@[simp] theorem e_idx (a b : E) : evE cl (.idx a b) L M = (evE cl a L M).bind fun x M1 => (evE cl b L M1).bind fun y M2 => ofO (idxS M2 x y) M2 := rfl
@[simp] theorem e_slc (a : E) (lo hi : Es) : evE cl (.slc a lo hi) L M = (evE cl a L M).bind fun x M1 => (evP cl lo L M1).bind fun u M2 => (evP cl hi L M2).bind fun v M3 => ofO (slcS M3 x u v) M3 := rfl
@[simp] theorem e_rev (a : E) : evE cl (.rev a) L M = (evE cl a L M).bind fun x M1 => ofO (revS M1 x) M1 := rfl
@[simp] theorem p_nil : evP cl .nil L M = .ok none M := rfl
@[simp] theorem p_cons (e : E) (es : Es) : evP cl (.cons e es) L M = (evE cl e L M).bind fun d M1 => match d with | .int i => .ok (some i) M1 | _ => .bad := rfl
@[simp] theorem es_nil : evEs cl .nil L M = .ok [] M := rfl
@[simp] theorem es_cons (e : E) (es : Es) : evEs cl (.cons e es) L M = (evE cl e L M).bind fun v M1 => (evEs cl es L M1).bind fun vs M2 => .ok (v :: vs) M2 := rfl
@[simp] theorem c_nil : evC cl .nil L M = .ok (.bl true) M := rfl
@[simp] theorem c_cons (e : E) (es : Es) : evC cl (.cons e es) L M = evE cl e L M := rfl
@[simp] theorem n_disp (es : Es) : evN cl (.disp es) L M = (evEs cl es L M).bind fun vs M1 => if vs.length ≤ lim then .ok (.lst vs) M1 else .bad := rfl
@[simp] theorem n_comp (own : List Nat) (elt : E) (tg : Tg) (it : I) (cs : Es) : evN cl (.comp own elt tg it cs) L M = (evI cl it L M).bind fun w M1 =>
      if w.items.length ≤ lim then ((compL w tg (wipe L own) (evC cl cs) (evE cl elt) w.items M1).nx).bind fun vs M2 => .ok (.lst vs) M2 else .bad := rfl
@[simp] theorem n_comp2 (own own1 : List Nat) (elt : E) (tg : Tg) (it : I) (cs : Es) (tg1 : Tg) (it1 : I) (cs1 : Es) : evN cl (.comp2 own own1 elt tg it cs tg1 it1 cs1) L M = (evI cl it L M).bind fun w M1 =>
      ((compL2 w tg (wipe L own) (evC cl cs) (fun L1 M => (evI cl it1 L1 M).bind fun w1 M1 => (compL w1 tg1 (wipe L1 own1) (evC cl cs1) (evE cl elt) w1.items M1)) w.items M1).nx).bind fun vs M2 => if vs.length ≤ lim then .ok (.lst vs) M2 else .bad := rfl
@[simp] theorem n_listOf (a : E) : evN cl (.listOf a) L M = (evE cl a L M).bind fun x M1 => match cont M1 x with | some (.lst l) => .ok (.lst l) M1 | some (.tup l) => .ok (.lst l) M1 | some (.scr l) => .ok (.lst l) M1 | _ => .bad := rfl
@[simp] theorem n_listRg (a b : E) : evN cl (.listRg a b) L M = (evE cl a L M).bind fun x M1 => (evE cl b L M1).bind fun y M2 => match x, y with | .int i, .int j => if rgOk i j && decide ((j - i).toNat ≤ 2 ^ 24) then .ok (.lst (rgL i j)) M2 else .bad | _, _ => .bad := rfl
@[simp] theorem n_cat (a b : E) : evN cl (.cat a b) L M = (evE cl a L M).bind fun x M1 => (evE cl b L M1).bind fun y M2 => match cont M2 x, cont M2 y with | some (.lst l), some (.lst r) => if l.length + r.length ≤ lim then .ok (.lst (l ++ r)) M2 else .bad | _, _ => .bad := rfl
@[simp] theorem n_sorted (a : E) : evN cl (.sorted a) L M = (evE cl a L M).bind fun x M1 => match cont M1 x with
      | some (.lst l) => ofO ((allInts l).map fun ns => .lst ((sortI ns).map .int)) M1
      | some (.tup l) => ofO ((allInts l).map fun ns => .lst ((sortI ns).map .int)) M1
      | _ => .bad := rfl
@[simp] theorem n_dict0 : evN cl .dict0 L M = .ok (.dct 1 []) M := rfl
@[simp] theorem e_dsp (es : Es) : evE cl (.dsp es) L M = ((evEs cl es L M).nx).bind fun vs M1 => (ofO ((pairUp vs).bind dispS) M1).bind fun l M2 => .ok (.dct 0 l) M2 := rfl
@[simp] theorem e_dcomp (own : List Nat) (k v : E) (tg : Tg) (it : I) (cs : Es) : evE cl (.dcomp own k v tg it cs) L M = (evI cl it L M).bind fun w M1 => if w.items.length ≤ lim then ((dcompL w tg (wipe L own) (evC cl cs) (evE cl k) (evE cl v) w.items [] M1).nx).bind fun l M2 => .ok (.dct 0 l) M2 else .bad := rfl
@[simp] theorem e_setd (o k v : E) : evE cl (.setd o k v) L M = (evE cl o L M).bind fun x M1 => if isDr M1 x then (evE cl k L M1).bind fun y M2 => (evE cl v L M2).bind fun z M3 => (match setdS M3 x y z with | some (d, M4) => .ok d M4 | none => .bad) else .bad := rfl
@[simp] theorem e_updt (o e : E) : evE cl (.updt o e) L M = (evE cl o L M).bind fun x M1 => if isDr M1 x then (evE cl e L M1).bind fun y M2 => (match updS M2 x y with | some M3 => .ok .non M3 | none => .bad) else .bad := rfl
@[simp] theorem e_callv (f : E) (es : Es) : evE cl (.callv f es) L M = (evE cl f L M).bind fun x M1 => match x with | .fn n => (evEs cl es L M1).bind fun vs M2 => cl.call n vs M2 | _ => .bad := rfl
@[simp] theorem e_tupD (e : E) : evE cl (.tupD e) L M = (evE cl e L M).bind fun x M1 => match cont M1 x with | some (.dct _ l) => .ok (.tup (l.map (·.1))) M1 | _ => .bad := rfl
@[simp] theorem e_isN (neg : Bool) (a : E) : evE cl (.isN neg a) L M = (evE cl a L M).bind fun x M1 => .ok (.bl (neg != (match x with | .non => true | _ => false))) M1 := rfl
@[simp] theorem es_star (e : E) (es : Es) : evEs cl (.star e es) L M = (evE cl e L M).bind fun v M1 => (ofO (starS M1 v) M1).bind fun us M1 => (evEs cl es L M1).bind fun vs M2 => .ok (us ++ vs) M2 := rfl
@[simp] theorem n_listD (a : E) : evN cl (.listD a) L M = (evE cl a L M).bind fun x M1 => match cont M1 x with | some (.dct _ l) => .ok (.lst (l.map (·.1))) M1 | _ => .bad := rfl
@[simp] theorem n_sortedD (a : E) : evN cl (.sortedD a) L M = (evE cl a L M).bind fun x M1 => match cont M1 x with
      | some (.dct _ l) => ofO (sortD (l.map (·.1)) (l.map (·.1))) M1
      | some (.lst l) => ofO (sortD l l) M1
      | some (.tup l) => ofO (sortD l l) M1
      | _ => .bad := rfl
@[simp] theorem i_keys (e : E) : evI cl (.keys e) L M = (evE cl e L M).bind fun x M1 => ofO (keyS M1 x) M1 := rfl
@[simp] theorem i_items (e : E) : evI cl (.items e) L M = (evE cl e L M).bind fun x M1 => ofO (itmS M1 x) M1 := rfl
@[simp] theorem i_vals (e : E) : evI cl (.vals e) L M = (evE cl e L M).bind fun x M1 => ofO (valS M1 x) M1 := rfl
@[simp] theorem x_asgIx (o i : E) (j : Nat) (e : E) : exS cl (.asgIx o i j e) L M = (evE cl e L M).then L fun d M1 => match d with
    | .tup [x, y] => (evE cl o L M1).then L fun u M2 => (evE cl i L M2).then L fun k M3 => match setS M3 u k x with | some M4 => .next (L.set j (some y)) M4 | none => .bad
    | _ => .bad := rfl
@[simp] theorem x_whil (c : E) (b : Ss) : exS cl (.whil c b) L M = whileL (evE cl c) (exSs cl b) cl.fuel L M := rfl
@[simp] theorem x_pass  : exS cl (.pass) L M = .next L M := rfl
@[simp] theorem x_brk  : exS cl (.brk) L M = .brk L M := rfl
@[simp] theorem x_cont  : exS cl (.cont) L M = .cont L M := rfl
@[simp] theorem i_seq (e : E) : evI cl (.seq e) L M = (evE cl e L M).bind fun x M1 => ofO (seqS M1 x) M1 := rfl
@[simp] theorem i_range (a b : E) : evI cl (.range a b) L M = (evE cl a L M).bind fun x M1 => (evE cl b L M1).bind fun y M2 => match x, y with | .int i, .int j => if rgOk i j then .ok ⟨rgL i j, none⟩ M2 else .bad | _, _ => .bad := rfl
@[simp] theorem i_enum (e : E) : evI cl (.enum e) L M = (evE cl e L M).bind fun x M1 => match x with | .tup l => .ok ⟨enumL 0 l, none⟩ M1 | .lst l => .ok ⟨enumL 0 l, none⟩ M1 | _ => .bad := rfl
@[simp] theorem i_zip (a b : E) : evI cl (.zip a b) L M = (evE cl a L M).bind fun x M1 => (evE cl b L M1).bind fun y M2 => match x, y with | .tup l, .tup r => .ok ⟨zipL l r, none⟩ M2 | .lst l, .lst r => .ok ⟨zipL l r, none⟩ M2 | _, _ => .bad := rfl
end
@[simp] theorem R.then_bad {α : Type} (L : Lo) (f : α → List D → RS) : (R.bad : R α).then L f = .bad := rfl
@[simp] theorem RS.seq_bad (f : Lo → List D → RS) : (RS.bad).seq f = .bad := rfl
@[simp] theorem asg_name (i : Nat) (d : D) (L : Lo) : asg (.name i) d L = some (L.set i (some d)) := rfl
@[simp] theorem asg_tup2 (i j : Nat) (a b : D) (L : Lo) : asg (.tup [i, j]) (.tup [a, b]) L = some ((L.set i (some a)).set j (some b)) := rfl
@[simp] theorem wipe_nil (L : Lo) : wipe L [] = L := rfl
@[simp] theorem wipe_cons (L : Lo) (v : Nat) (vs : List Nat) : wipe L (v :: vs) = (wipe L vs).set v none := rfl
@[simp] theorem truth_bl (M : List D) (b : Bool) : truth M (.bl b) = some b := rfl
@[simp] theorem cont_ref (M : List D) (n : Nat) : cont M (.ref n) = M[n]? := rfl
@[simp] theorem cont_tup (M : List D) (l : List D) : cont M (.tup l) = some (.tup l) := rfl
@[simp] theorem cont_lst (M : List D) (l : List D) : cont M (.lst l) = some (.lst l) := rfl
@[simp] theorem cont_scr (M : List D) (l : List D) : cont M (.scr l) = some (.scr l) := rfl
@[simp] theorem cont_int (M : List D) (i : Int) : cont M (.int i) = some (.int i) := rfl
@[simp] theorem cont_bl (M : List D) (i : Bool) : cont M (.bl i) = some (.bl i) := rfl
@[simp] theorem cont_non (M : List D) : cont M .non = some .non := rfl
@[simp] theorem cont_str (M : List D) (x : PySem.Str) : cont M (.str x) = some (.str x) := rfl
@[simp] theorem cont_dct (M : List D) (e : Nat) (l : List (D × D)) : cont M (.dct e l) = some (.dct e l) := rfl
@[simp] theorem bin_int (M : List D) (o : Bop) (i j : Int) : binS M o (.int i) (.int j) = (intS o i j).map .int := rfl
@[simp] theorem in_add (i j : Int) : intS .add i j = some (i + j) := rfl
@[simp] theorem in_sub (i j : Int) : intS .sub i j = some (i - j) := rfl
theorem in_mul {i j : Int} (h : okMul i j = true) : intS .mul i j = some (i * j) := if_pos h
@[simp] theorem cmp_lt (M : List D) (i j : Int) : cmpS M .lt (.int i) (.int j) = some (decide (i < j)) := rfl
@[simp] theorem cmp_le (M : List D) (i j : Int) : cmpS M .le (.int i) (.int j) = some (decide (i ≤ j)) := rfl
@[simp] theorem cmp_gt (M : List D) (i j : Int) : cmpS M .gt (.int i) (.int j) = some (decide (j < i)) := rfl
@[simp] theorem cmp_ge (M : List D) (i j : Int) : cmpS M .ge (.int i) (.int j) = some (decide (j ≤ i)) := rfl
@[simp] theorem cmp_isnBl (M : List D) (i j : Bool) : cmpS M .isn (.bl i) (.bl j) = some (!decide (i = j)) := rfl
theorem eqS_of {M : List D} {x y : D} {a b : PySem.PyData} (hx : (frz M 0 6 x).bind toPD = some a) (hy : (frz M 0 6 y).bind toPD = some b) (ha : PySem.SeqAt.shaped a = true) (hb : PySem.SeqAt.shaped b = true) : eqS M x y = some (PySem.PyData.eqv a b) := by
  refine eqS_eqD ?_
  unfold eqD
  rw [hx, hy]
  show (if (PySem.SeqAt.shaped a && PySem.SeqAt.shaped b) = true then _ else _) = _
  rw [ha, hb]
  rfl
end MP
/-! MiniPy 17: reckoning: closed data, equality of ints, loops. -/
namespace MP

mutual
theorem sub_bel {f : Nat → Option D} {b : Nat} (hf : ∀ k, k < b → f k = some (.ref k)) : ∀ d : D, bel b d = true → sub f d = some d
  | .non, _ => rfl
  | .bl _, _ => rfl
  | .int _, _ => rfl
  | .str _, _ => rfl
  | .ty _, _ => rfl
  | .fn _, _ => rfl
  | .tup l, h => by simp only [bel] at h; simp [sub, subs_bel hf l h]
  | .lst l, h => by simp only [bel] at h; simp [sub, subs_bel hf l h]
  | .scr l, h => by simp only [bel] at h; simp [sub, subs_bel hf l h]
  | .dct _ l, h => by simp only [bel] at h; simp [sub, subd_bel hf l h]
  | .ref n, h => by simp [bel] at h; simpa [sub] using hf n h
theorem subs_bel {f : Nat → Option D} {b : Nat} (hf : ∀ k, k < b → f k = some (.ref k)) : ∀ l : List D, bels b l = true → subs f l = some l
  | [], _ => rfl
  | d :: r, h => by
    simp only [bels, Bool.and_eq_true] at h
    simp [subs, sub_bel hf d h.1, subs_bel hf r h.2]
theorem subd_bel {f : Nat → Option D} {b : Nat} (hf : ∀ k, k < b → f k = some (.ref k)) : ∀ l : List (D × D), beld b l = true → subd f l = some l
  | [], _ => rfl
  | (k, v) :: r, h => by
    simp only [beld, Bool.and_eq_true] at h
    simp [subd, sub_bel hf k h.1, sub_bel hf v h.2.1, subd_bel hf r h.2.2]
end
theorem gf_lt (M : List D) (b n k : Nat) (h : k < b) : gf M b n k = some (.ref k) := by
  cases n <;> simp [gf, h]
theorem frz_bel {M : List D} {b n : Nat} {d : D} (h : bel b d = true) : frz M b n d = some d := sub_bel (fun k hk => gf_lt M b n k hk) d h
mutual
theorem bel_mono {a b : Nat} (h : a ≤ b) : ∀ d : D, bel a d = true → bel b d = true
  | .non, _ => rfl
  | .bl _, _ => rfl
  | .int _, _ => rfl
  | .str _, _ => rfl
  | .ty _, _ => rfl
  | .fn _, _ => rfl
  | .tup l, e => by simp only [bel] at e ⊢; exact bels_mono h l e
  | .lst l, e => by simp only [bel] at e ⊢; exact bels_mono h l e
  | .scr l, e => by simp only [bel] at e ⊢; exact bels_mono h l e
  | .dct _ l, e => by simp only [bel] at e ⊢; exact beld_mono h l e
  | .ref n, e => by simp [bel] at e ⊢; omega
theorem bels_mono {a b : Nat} (h : a ≤ b) : ∀ l : List D, bels a l = true → bels b l = true
  | [], _ => rfl
  | d :: r, e => by
    simp only [bels, Bool.and_eq_true] at e ⊢
    exact ⟨bel_mono h d e.1, bels_mono h r e.2⟩
theorem beld_mono {a b : Nat} (h : a ≤ b) : ∀ l : List (D × D), beld a l = true → beld b l = true
  | [], _ => rfl
  | (k, v) :: r, e => by
    simp only [beld, Bool.and_eq_true] at e ⊢
    exact ⟨bel_mono h k e.1, bel_mono h v e.2.1, beld_mono h r e.2.2⟩
end
theorem bels_iff {b : Nat} : ∀ {l : List D}, bels b l = true ↔ ∀ d ∈ l, bel b d = true
  | [] => by simp [bels]
  | d :: r => by simp [bels, bels_iff (l := r)]
/-- a call that leaves the small heap's length -/
theorem clean_same {M M' : List D} {d : D} (hl : M'.length = M.length) (hd : bel M.length d = true) : clean M d M' = .ok d M' := by
  unfold clean
  have e : M'.take M.length = M' := by rw [← hl]; exact List.take_length
  split
  · rw [frz_bel hd, e]
  · rfl
theorem clean_self {M : List D} {d : D} (hd : bel M.length d = true) : clean M d M = .ok d M := clean_same rfl hd
/-- what was made is dropped -/
theorem clean_drop {M M1 rest : List D} {d : D} (hl : M1.length = M.length) (hM : bels M.length M1 = true) (hd : bel M.length d = true) : clean M d (M1 ++ rest) = .ok d M1 := by
  unfold clean
  have e : (M1 ++ rest).take M.length = M1 := by rw [← hl]; exact List.take_left' rfl
  rw [e, hM, Bool.or_true, if_pos rfl, frz_bel hd]
@[simp] theorem clean_int (M : List D) (i : Int) : clean M (.int i) M = .ok (.int i) M := clean_self rfl
@[simp] theorem clean_bl (M : List D) (i : Bool) : clean M (.bl i) M = .ok (.bl i) M := clean_self rfl
@[simp] theorem clean_non (M : List D) : clean M .non M = .ok .non M := clean_self rfl
@[simp] theorem at_0 (x : D) (l : List D) : L2.atI (x :: l) 0 = some x := L2.atI_nat (j := 0) rfl
@[simp] theorem at_1 (x y : D) (l : List D) : L2.atI (x :: y :: l) 1 = some y := L2.atI_nat (j := 1) rfl
@[simp] theorem at_2 (x y z : D) (l : List D) : L2.atI (x :: y :: z :: l) 2 = some z := L2.atI_nat (j := 2) rfl
@[simp] theorem fin_ret (M : List D) (d : D) (M' : List D) : fin false M (.ret d M') = clean M d M' := rfl
@[simp] theorem fin_next (M : List D) (L : Lo) (M' : List D) : fin false M (.next L M') = clean M .non M' := rfl
@[simp] theorem fin_keep (M : List D) (d : D) (M' : List D) : fin true M (.ret d M') = .ok d M' := rfl

/-! ### equality -/
theorem toPDs_ints : ∀ l : List Int, toPDs (l.map D.int) = some (l.map PySem.PyData.int)
  | [] => rfl
  | i :: r => by simp [toPDs, toPD, toPDs_ints r]
theorem lay_ints : ∀ l : List Int, PySem.PyData.canLayAll0 (l.map PySem.PyData.int) = true
  | [] => rfl
  | i :: r => by simp [PySem.PyData.canLayAll0, PySem.PyData.canLay0, lay_ints r]
theorem eqv_ints : ∀ l k : List Int, PySem.PyData.eqvAll (l.map PySem.PyData.int) (k.map PySem.PyData.int) = decide (l = k)
  | [], [] => by simp [PySem.PyData.eqvAll]
  | [], _ :: _ => by simp [PySem.PyData.eqvAll]
  | _ :: _, [] => by simp [PySem.PyData.eqvAll]
  | i :: l, j :: k => by
    simp only [List.map_cons, PySem.PyData.eqvAll, PySem.PyData.eqv, eqv_ints l k]
    by_cases h : i = j <;> by_cases h2 : l = k <;> simp [h, h2]
theorem depth_ints : ∀ l : List Int, PySem.PyData.depthAll (l.map PySem.PyData.int) = 0
  | [] => by simp [PySem.PyData.depthAll]
  | i :: r => by simp [PySem.PyData.depthAll, PySem.PyData.depth, depth_ints r]
theorem bels_ints (b : Nat) : ∀ l : List Int, bels b (l.map D.int) = true
  | [] => rfl
  | i :: r => by simp [bels, bel, bels_ints b r]
theorem shaped_ints (l : List Int) : PySem.SeqAt.shaped (.list (l.map PySem.PyData.int)) = true := by
  simp [PySem.SeqAt.shaped, PySem.PyData.canLay0, PySem.PyData.depth, lay_ints, depth_ints]
theorem eqS_ints (M : List D) (l k : List Int) : eqS M (.lst (l.map .int)) (.lst (k.map .int)) = some (decide (l = k)) := by
  have h : ∀ l : List Int, (frz M 0 6 (.lst (l.map .int))).bind toPD = some (.list (l.map .int)) := fun l => by
    rw [frz_bel (by simp [bel, bels_ints])]
    simp [toPD, toPDs_ints]
  rw [eqS_of (h l) (h k) (shaped_ints l) (shaped_ints k)]
  show some (PySem.PyData.eqvAll _ _) = _
  rw [eqv_ints]
theorem eqS_int (M : List D) (i j : Int) : eqS M (.int i) (.int j) = some (decide (i = j)) := by
  have h : ∀ i : Int, (frz M 0 6 (.int i)).bind toPD = some (.int i) := fun i => rfl
  rw [eqS_of (h i) (h j) (by simp [PySem.SeqAt.shaped, PySem.PyData.canLay0, PySem.PyData.depth]) (by simp [PySem.SeqAt.shaped, PySem.PyData.canLay0, PySem.PyData.depth])]
  show some (i == j) = _
  by_cases h : i = j <;> simp [h]
theorem eqS_bl (M : List D) (i j : Bool) : eqS M (.bl i) (.bl j) = some (decide (i = j)) := by
  have h : ∀ i : Bool, (frz M 0 6 (.bl i)).bind toPD = some (.bool i) := fun i => rfl
  rw [eqS_of (h i) (h j) (by simp [PySem.SeqAt.shaped, PySem.PyData.canLay0, PySem.PyData.depth]) (by simp [PySem.SeqAt.shaped, PySem.PyData.canLay0, PySem.PyData.depth])]
  show some (i == j) = _
  by_cases h : i = j <;> simp [h]
@[simp] theorem cmp_eqI (M : List D) (i j : Int) : cmpS M .eq (.int i) (.int j) = some (decide (i = j)) := eqS_int M i j
@[simp] theorem cmp_neI (M : List D) (i j : Int) : cmpS M .ne (.int i) (.int j) = some (!decide (i = j)) := by
  show (eqS M (.int i) (.int j)).map not = _
  rw [eqS_int]
  rfl
@[simp] theorem cmp_eqB (M : List D) (i j : Bool) : cmpS M .eq (.bl i) (.bl j) = some (decide (i = j)) := eqS_bl M i j
@[simp] theorem cmp_neB (M : List D) (i j : Bool) : cmpS M .ne (.bl i) (.bl j) = some (!decide (i = j)) := by
  show (eqS M (.bl i) (.bl j)).map not = _
  rw [eqS_bl]
  rfl
theorem cmp_eqL (M : List D) (l k : List Int) : cmpS M .eq (.lst (l.map .int)) (.lst (k.map .int)) = some (decide (l = k)) := eqS_ints M l k
theorem cmp_neL (M : List D) (l k : List Int) : cmpS M .ne (.lst (l.map .int)) (.lst (k.map .int)) = some (!decide (l = k)) := by
  show (eqS M _ _).map not = _
  rw [eqS_ints]
  rfl

/-! ### loops -/
theorem forL_inv {w : Wk} {tg : Tg} {body : Lo → List D → RS} (P : Nat → Lo → List D → Prop) (hok : ∀ i L M, P i L M → w.ok M = true)
    (hstep : ∀ i x L M, w.items[i]? = some x → P i L M → ∃ L1, asg tg x L = some L1 ∧ ∃ L2 M2, (body L1 M = .next L2 M2 ∨ body L1 M = .cont L2 M2) ∧ P (i + 1) L2 M2) :
    ∀ (k i : Nat) (L : Lo) (M : List D), i + k = w.items.length → P i L M → ∃ L' M', forL w tg body (w.items.drop i) L M = .next L' M' ∧ P w.items.length L' M'
  | 0, i, L, M, hk, p => by
    have e : i = w.items.length := by omega
    subst e
    refine ⟨L, M, ?_, p⟩
    rw [List.drop_length]
    unfold forL
    rw [if_pos (hok _ _ _ p)]
  | k + 1, i, L, M, hk, p => by
    have hi : i < w.items.length := by omega
    obtain ⟨L1, h1, L2, M2, h2, p2⟩ := hstep i _ L M (List.getElem?_eq_getElem hi) p
    obtain ⟨L', M', h3, p3⟩ := forL_inv P hok hstep k (i + 1) L2 M2 (by omega) p2
    refine ⟨L', M', ?_, p3⟩
    rw [List.drop_eq_getElem_cons hi]
    unfold forL
    rw [if_pos (hok _ _ _ p), h1]
    rcases h2 with h2 | h2 <;> simp only [h2] <;> exact h3
theorem forL_all {w : Wk} {tg : Tg} {body : Lo → List D → RS} {L : Lo} {M : List D} (P : Nat → Lo → List D → Prop) (h0 : P 0 L M) (hok : ∀ i L M, P i L M → w.ok M = true)
    (hstep : ∀ i x L M, w.items[i]? = some x → P i L M → ∃ L1, asg tg x L = some L1 ∧ ∃ L2 M2, (body L1 M = .next L2 M2 ∨ body L1 M = .cont L2 M2) ∧ P (i + 1) L2 M2) :
    ∃ L' M', forL w tg body w.items L M = .next L' M' ∧ P w.items.length L' M' := by
  have := forL_inv P hok hstep w.items.length 0 L M (by omega) h0
  simpa using this
/-- a comprehension that changes nothing -/
theorem compL_pure {α : Type} {w : Wk} {tg : Tg} {L : Lo} {cnd elt : Lo → List D → R D} {M : List D} (hok : w.ok M = true) (enc : α → D) (p : α → Bool) (g : α → D) (as : List α)
    (h : ∀ a ∈ as, ∃ L1, asg tg (enc a) L = some L1 ∧ cnd L1 M = .ok (.bl (p a)) M ∧ (p a = true → elt L1 M = .ok (g a) M)) : compL w tg L cnd elt (as.map enc) M = .ok ((as.filter p).map g) M := by
  induction as with
  | nil =>
    show (if w.ok M then _ else _) = _
    rw [if_pos hok]
    rfl
  | cons a as ih =>
    obtain ⟨L1, h1, h2, h3⟩ := h a List.mem_cons_self
    have ih := ih fun b hb => h b (List.mem_cons_of_mem _ hb)
    show (if w.ok M then _ else _) = _
    rw [if_pos hok, h1]
    show (cnd L1 M).bind _ = _
    rw [h2]
    show (if p a = true then _ else _) = _
    by_cases hp : p a = true
    · rw [if_pos hp, h3 hp]
      show (compL w tg L cnd elt (as.map enc) M).bind _ = _
      rw [ih]
      simp [hp]
    · rw [if_neg hp]
      rw [ih]
      simp [hp]
theorem compL_map {α : Type} {w : Wk} {tg : Tg} {L : Lo} {cl : Cl} {elt : Lo → List D → R D} {M : List D} (hok : w.ok M = true) (enc : α → D) (g : α → D) (as : List α)
    (h : ∀ a ∈ as, ∃ L1, asg tg (enc a) L = some L1 ∧ elt L1 M = .ok (g a) M) : compL w tg L (evC cl .nil) elt (as.map enc) M = .ok (as.map g) M := by
  have := compL_pure (cnd := evC cl .nil) (elt := elt) (tg := tg) (L := L) hok enc (fun _ => true) g as fun a ha => by
    obtain ⟨L1, h1, h2⟩ := h a ha
    exact ⟨L1, h1, rfl, fun _ => h2⟩
  rw [this]
  congr 2
  exact List.filter_eq_self.mpr fun _ _ => rfl
theorem cut_from (l : List D) (n : Nat) : cutD l (some (n : Int)) none = l.drop n := by
  unfold cutD
  rw [show HT.sIx l.length 0 (some (n : Int)) = min n l.length from HT.sIx_nat l.length 0 n, HT.sIx_none]
  by_cases h : n ≤ l.length
  · rw [Nat.min_eq_left h]
    exact List.take_of_length_le (by simp)
  · rw [Nat.min_eq_right (by omega), List.drop_length, List.drop_of_length_le (by omega)]
    simp
theorem cut_to (l : List D) (n : Nat) : cutD l none (some (n : Int)) = l.take n := by
  unfold cutD
  rw [show HT.sIx l.length l.length (some (n : Int)) = min n l.length from HT.sIx_nat l.length l.length n, HT.sIx_none]
  rw [List.drop_zero, Nat.sub_zero]
  by_cases h : n ≤ l.length
  · rw [Nat.min_eq_left h]
  · rw [Nat.min_eq_right (by omega), List.take_length, List.take_of_length_le (by omega)]
theorem allInts_map : ∀ l : List Int, allInts (l.map D.int) = some l
  | [] => rfl
  | i :: r => by simp [allInts, allInts_map r]
theorem allBls_map : ∀ l : List Bool, allBls (l.map D.bl) = some l
  | [] => rfl
  | i :: r => by simp [allBls, allBls_map r]
@[simp] theorem ok_none (l : List D) (M : List D) : (Wk.mk l none).ok M = true := rfl
end MP
/-! MiniPy 18: small facts for reckoning. -/
namespace MP
section
variable (cl : Cl) (L : Lo) (M : List D)
@[simp] theorem n_sortK (it : I) (p : Nat) (body : E) : evN cl (.sortK it p body) L M = (evI cl it L M).bind fun w M1 => if cl.hi then (if w.items.length ≤ lim then ((mapE (evE cl.lower body) p L w.items M1).nx).bind fun ks M2 => ofO (sortD w.items ks) M2 else .bad) else .bad := rfl
@[simp] theorem e_met (tag : PySem.Str) (hs : List HdR) (b : E) : evE cl (.met tag hs b) L M = if cl.hi then metR tag hs (evE cl.lower b L M) else .bad := rfl
@[simp] theorem x_raise (c : PySem.Str) (es : Es) : exS cl (.raise c es) L M = (evEs cl es L M).then L fun vs M1 => match vs with | [d] => .exc c d L M1 | _ => .exc c .non L M1 := rfl
end
@[simp] theorem RS.seq_exc (c : PySem.Str) (e : D) (L : Lo) (M : List D) (f : Lo → List D → RS) : (RS.exc c e L M).seq f = .exc c e L M := rfl
@[simp] theorem R.then_exc {α : Type} (c : PySem.Str) (e : D) (L : Lo) (M : List D) (f : α → List D → RS) : (R.exc c e M : R α).then L f = .exc c e L M := rfl
theorem endX_same {M M' : List D} {c : PySem.Str} (h : M' = M) : endX M c .non M' = .exc c .non M := by
  subst h
  unfold endX
  rw [List.take_length, if_pos]
  have h1 : bqs M' M' = true := bqs_self M'
  rw [h1]
  rfl
@[simp] theorem fin_exc (kp : Bool) (M : List D) (c : PySem.Str) (L : Lo) : fin kp M (.exc c .non L M) = .exc c .non M := endX_same rfl
@[simp] theorem clOf_hi2 (T : List FD) (f k : Nat) : (clOf T f (k + 2)).hi = true := rfl
@[simp] theorem clOf_lower2 (T : List FD) (f k : Nat) : (clOf T f (k + 2)).lower = ⟨runF T f k, f, fun _ _ _ => .bad, false⟩ := rfl
@[simp] theorem clOf_call' (T : List FD) (f k i : Nat) (vs M : List D) : (clOf T f k).call i vs M = runF T f k i vs M := by rw [clOf_call]
@[simp] theorem cl_call (f g : Nat → List D → List D → R D) (n i : Nat) (h : Bool) (vs M : List D) : (Cl.mk f n g h).call i vs M = f i vs M := rfl
theorem compL_nil_ok {w : Wk} {tg : Tg} {L : Lo} {cnd elt : Lo → List D → R D} {M : List D} (hok : w.ok M = true) : compL w tg L cnd elt [] M = .ok [] M := by
  show (if w.ok M = true then R.ok ([] : List D) M else .bad) = _
  rw [hok]
  rfl
theorem compL_cons_ok {w : Wk} {tg : Tg} {L L1 : Lo} {cnd elt : Lo → List D → R D} {x y : D} {r zs : List D} {M M2 M3 : List D} (hok : w.ok M = true) (ha : asg tg x L = some L1) (hc : cnd L1 M = .ok (.bl true) M) (he : elt L1 M = .ok y M2) (hr : compL w tg L cnd elt r M2 = .ok zs M3) :
    compL w tg L cnd elt (x :: r) M = .ok (y :: zs) M3 := by
  show (if w.ok M = true then (match asg tg x L with
      | none => R.bad
      | some L1 => (cnd L1 M).bind fun x M1 => (ofO (truth M1 x) M1).bind fun b M1 => if b then (elt L1 M1).bind fun y M2 => (compL w tg L cnd elt r M2).bind fun ys M3 => .ok (y :: ys) M3 else compL w tg L cnd elt r M1) else .bad) = _
  rw [hok, ha]
  show (if true = true then ((cnd L1 M).bind fun x M1 => (ofO (truth M1 x) M1).bind fun b M1 => if b then (elt L1 M1).bind fun y M2 => (compL w tg L cnd elt r M2).bind fun ys M3 => .ok (y :: ys) M3 else compL w tg L cnd elt r M1) else .bad) = _
  rw [if_pos rfl, hc, R.bind_ok]
  show ((elt L1 M).bind fun y M2 => (compL w tg L cnd elt r M2).bind fun ys M3 => .ok (y :: ys) M3) = _
  rw [he, R.bind_ok, hr]
  rfl
/-- a comprehension whose elements change the heap: an invariant of the heap, a property of the elements -/
theorem compL_inv {α : Type} {w : Wk} {tg : Tg} {L : Lo} {cl : Cl} {elt : Lo → List D → R D} (I : List D → Prop) (P : D → Prop) (enc : α → D) (hok : ∀ M, I M → w.ok M = true) : ∀ (as : List α) (M : List D), I M → (∀ a ∈ as, ∀ M, I M → ∃ L1, asg tg (enc a) L = some L1 ∧ ∃ y M2, elt L1 M = .ok y M2 ∧ I M2 ∧ P y) →
    ∃ zs M3, compL w tg L (evC cl .nil) elt (as.map enc) M = .ok zs M3 ∧ I M3 ∧ zs.length = as.length ∧ ∀ z ∈ zs, P z
  | [], M, hI, _ => ⟨[], M, compL_nil_ok (hok M hI), hI, rfl, fun _ h => nomatch h⟩
  | a :: as, M, hI, h => by
    obtain ⟨L1, h1, y, M2, h2, h3, h4⟩ := h a List.mem_cons_self M hI
    obtain ⟨zs, M3, q1, q2, q3, q4⟩ := compL_inv I P enc hok as M2 h3 fun b hb => h b (List.mem_cons_of_mem _ hb)
    refine ⟨y :: zs, M3, compL_cons_ok (hok M hI) h1 rfl h2 q1, q2, by simp [q3], fun z hz => ?_⟩
    rcases List.mem_cons.mp hz with rfl | hz
    · exact h4
    · exact q4 z hz
theorem sortK_run {T : List FD} {f k p : Nat} {L : Lo} {M M1 M2 : List D} {w : Wk} {ks : List D} {d : D} {it : I} {mb : E} (h1 : evI (clOf T f (k + 2)) it L M = .ok w M1) (hlim : w.items.length ≤ lim) (hm : mapE (evE ⟨runF T f k, f, fun _ _ _ => .bad, false⟩ mb) p L w.items M1 = .ok ks M2) (hsd : sortD w.items ks = some d) :
    evN (clOf T f (k + 2)) (.sortK it p mb) L M = .ok d M2 := by
  rw [n_sortK, h1, R.bind_ok, clOf_hi2, if_pos rfl, if_pos hlim, clOf_lower2, hm, R.nx_ok, R.bind_ok, hsd, ofO_some]
theorem range_run {cl : Cl} {L : Lo} {M M1 M2 : List D} {a b : E} {i j : Int} (ha : evE cl a L M = .ok (.int i) M1) (hb : evE cl b L M1 = .ok (.int j) M2) (hr : rgOk i j = true) : evI cl (.range a b) L M = .ok ⟨rgL i j, none⟩ M2 := by
  rw [i_range, ha, R.bind_ok, hb, R.bind_ok]
  show (if rgOk i j then _ else _) = _
  rw [hr]
  rfl
theorem sortBy_map {α : Type} (e : α → D) (k : α → PySem.PyData) (l : List α) : sortBy (l.map e) (l.map k) = (l.mergeSort (PySem.W.dataLe false k)).map e := by
  rw [sortBy_eq]
  have z : (l.map e).zip (l.map k) = l.map fun a => (e a, k a) := by
    rw [List.zip_map]
    induction l with
    | nil => rfl
    | cons a l ih => simp [ih]
  have q := List.map_mergeSort (r := PySem.W.dataLe false k) (s := PySem.W.dataLe false (Prod.snd : D × PySem.PyData → PySem.PyData)) (f := fun a => (e a, k a)) (l := l) (fun a _ b _ => rfl)
  rw [z, ← q, List.map_map]
  rfl
theorem mapE_map {α : Type} {f : Lo → List D → R D} {p : Nat} {L : Lo} {M : List D} (e g : α → D) : ∀ l : List α, (∀ a ∈ l, f (L.set p (some (e a))) M = .ok (g a) M) → mapE f p L (l.map e) M = .ok (l.map g) M
  | [], _ => rfl
  | a :: l, h => by
    show (f (L.set p (some (e a))) M).bind _ = _
    rw [h a List.mem_cons_self, R.bind_ok, mapE_map e g l fun b hb => h b (List.mem_cons_of_mem _ hb)]
    rfl
theorem toPDs_map {α : Type} (g : α → D) (k : α → PySem.PyData) : ∀ l : List α, (∀ a ∈ l, toPD (g a) = some (k a)) → toPDs (l.map g) = some (l.map k)
  | [], _ => rfl
  | a :: l, h => by
    show (toPD (g a)).bind _ = _
    rw [h a List.mem_cons_self, Option.bind_some, toPDs_map g k l fun b hb => h b (List.mem_cons_of_mem _ hb)]
    rfl
theorem keysOk_ints {α : Type} (f : α → Int) (l : List α) : keysOk (l.map fun a => .int (f a)) = true := by
  unfold keysOk
  simp [PySem.W.alike, notTN, PySem.PyData.depth]
theorem keysOk_pairs {α : Type} (f g : α → Int) (l : List α) : keysOk (l.map fun a => .tuple [.int (f a), .int (g a)]) = true := by
  unfold keysOk
  simp [PySem.W.alike, PySem.W.alikeAll, tupNE, PySem.PyData.depth, PySem.PyData.depthAll]
theorem sortD_map {α : Type} (e g : α → D) (k : α → PySem.PyData) (l : List α) (h : ∀ a ∈ l, toPD (g a) = some (k a)) (ok : keysOk (l.map k) = true) (hl : l.length ≤ lim) : sortD (l.map e) (l.map g) = some (.lst ((l.mergeSort (PySem.W.dataLe false k)).map e)) := by
  unfold sortD
  rw [toPDs_map g k l h, Option.bind_some, if_pos, sortBy_map]
  simp [ok, hl]
def amt (lo hi : Int) : D → Bool
  | .int v => decide (lo ≤ v) && decide (v ≤ hi)
  | _ => false
@[simp] theorem amt_int (lo hi v : Int) : amt lo hi (.int v) = (decide (lo ≤ v) && decide (v ≤ hi)) := rfl
theorem okL {i j : Int} (h1 : 0 ≤ i) (h2 : i ≤ 4611686018427387904) : okMul i j = true := by
  unfold okMul
  rw [Bool.or_eq_true]
  left
  simp only [Bool.and_eq_true, decide_eq_true_eq]
  constructor <;> omega
theorem okR {i j : Int} (h1 : 0 ≤ j) (h2 : j ≤ 4611686018427387904) : okMul i j = true := by
  unfold okMul
  rw [Bool.or_eq_true]
  right
  simp only [Bool.and_eq_true, decide_eq_true_eq]
  constructor <;> omega
@[simp] theorem seq_tup (M : List D) (l : List D) : seqS M (.tup l) = some ⟨l, none⟩ := rfl
@[simp] theorem seq_lst (M : List D) (l : List D) : seqS M (.lst l) = some ⟨l, none⟩ := rfl
theorem slc_from (M : List D) (l : List D) (n : Nat) : slcS M (.tup l) (some (n : Int)) none = some (.tup (l.drop n)) := by
  show some (D.tup (cutD l (some (n : Int)) none)) = _
  rw [cut_from]
theorem slc_to (M : List D) (l : List D) (n : Nat) : slcS M (.tup l) none (some (n : Int)) = some (.tup (l.take n)) := by
  show some (D.tup (cutD l none (some (n : Int)))) = _
  rw [cut_to]
theorem map_int {α : Type} (g : α → Int) (l : List α) : (l.map fun u => D.int (g u)) = (l.map g).map D.int := by
  rw [List.map_map]
  rfl
theorem blt_sum (M : List D) (l : List Int) : bltS M .sum [.lst (l.map .int)] = some (.int l.sum) := by
  show (((some (l.map D.int) : Option (List D)).bind allInts).map fun l => D.int l.sum) = _
  rw [Option.bind_some, allInts_map]
  rfl
theorem blt_len (M : List D) (l : List D) : bltS M .len [.lst l] = some (.int (l.length : Nat)) := rfl
theorem blt_lenT (M : List D) (l : List D) : bltS M .len [.tup l] = some (.int (l.length : Nat)) := rfl
theorem forL_cons {w : Wk} {tg : Tg} {body : Lo → List D → RS} {x : D} {r : List D} {L L1 L2 : Lo} {M M2 : List D} (hok : w.ok M = true) (h1 : asg tg x L = some L1) (h2 : body L1 M = .next L2 M2) : forL w tg body (x :: r) L M = forL w tg body r L2 M2 := by
  show (if w.ok M then _ else _) = _
  rw [if_pos hok, h1]
  show (match body L1 M with
    | .next L2 M2 => forL w tg body r L2 M2
    | .cont L2 M2 => forL w tg body r L2 M2
    | .brk L2 M2 => .next L2 M2
    | .ret d M2 => .ret d M2
    | .exc c e L2 M2 => .exc c e L2 M2
    | .bad => .bad) = _
  rw [h2]
theorem forL_nil {w : Wk} {tg : Tg} {body : Lo → List D → RS} {L : Lo} {M : List D} (hok : w.ok M = true) : forL w tg body [] L M = .next L M := by
  show (if w.ok M then _ else _) = _
  rw [if_pos hok]
theorem ist_tup (M : List D) (l : List D) : bltS M .isinst [.tup l, .ty "tuple"] = some (.bl true) := rfl
def amts (many : Int) (l : List D) : Bool := l.all (amt 0 (many - 1))
theorem amts_ints : ∀ {l : List D} {many : Int}, l.all flat = true → amts many l = true → ∃ ns, allInts l = some ns ∧ l = ns.map D.int
  | [], _, _, _ => ⟨[], rfl, rfl⟩
  | d :: l, many, hf, h => by
    simp only [amts, List.all_cons, Bool.and_eq_true] at h hf
    obtain ⟨ns, h1, h2⟩ := amts_ints (l := l) hf.2 h.2
    cases d <;> first | cases h.1 | skip
    rename_i i
    exact ⟨i :: ns, by simp [allInts, h1], by rw [h2]; rfl⟩
theorem blt_all (M : List D) (l : List Bool) : bltS M .all [.lst (l.map .bl)] = some (.bl (l.all id)) := by
  show (((some (l.map D.bl) : Option (List D)).bind allBls).map fun l => D.bl (l.all id)) = _
  rw [Option.bind_some, allBls_map]
  rfl
def rgI (many : Int) : List Int := (List.range many.toNat).map fun i : Nat => (i : Int)
def srtIs (many : Int) (ns : List Int) : Bool := decide (sortI ns = rgI many)
theorem rg0 (many : Int) : rgL 0 many = (rgI many).map D.int := by
  unfold rgL rgI
  rw [Int.sub_zero, List.map_map]
  refine List.map_congr_left fun i _ => ?_
  show D.int (0 + (i : Int)) = D.int (i : Int)
  rw [Int.zero_add]
theorem allInts_len : ∀ {l : List D} {ns : List Int}, allInts l = some ns → l = ns.map D.int
  | [], _, h => by cases h; rfl
  | d :: l, ns, h => by
    cases d <;> simp [allInts] at h
    obtain ⟨r, e, rfl⟩ := h
    rw [allInts_len e]
    rfl
def isI : D → Bool
  | .int _ => true
  | _ => false
theorem notInt {l : List D} (h : allInts l = none) : (l.filter fun x => !isI x) ≠ [] := by
  induction l with
  | nil => cases h
  | cons d l ih =>
    cases d <;> simp [allInts] at h <;> first | simp [isI] | skip
    have := ih h
    simpa [isI] using this
theorem allInt {l : List D} {ns : List Int} (h : allInts l = some ns) : (l.filter fun x => !isI x) = [] := by
  rw [allInts_len h, List.filter_eq_nil_iff]
  intro x hx
  obtain ⟨i, _, rfl⟩ := List.mem_map.mp hx
  simp [isI]
theorem sortI_len (ns : List Int) : (sortI ns).length = ns.length := by simp [sortI_eq]
theorem rgI_len (n : Nat) : (rgI (n : Int)).length = n := by simp [rgI]
theorem srt_len {n : Nat} {ns : List Int} (h : ns.length ≠ n) : srtIs (n : Int) ns = false := by
  unfold srtIs
  refine decide_eq_false fun e => h ?_
  rw [← sortI_len, e, rgI_len]
theorem srt_has {n : Nat} {ns : List Int} (h : (n : Int) ∈ ns) : srtIs (n : Int) ns = false := by
  unfold srtIs
  refine decide_eq_false fun e => ?_
  have : (n : Int) ∈ sortI ns := sortI_eq ns ▸ (List.mergeSort_perm ns _).mem_iff.mpr h
  rw [e] at this
  unfold rgI at this
  obtain ⟨i, hi, e⟩ := List.mem_map.mp this
  have := List.mem_range.mp hi
  omega
theorem rgI_sorted (n : Nat) : (rgI (n : Int)).Pairwise (· ≤ ·) := by
  unfold rgI
  rw [Int.toNat_natCast, List.pairwise_map]
  refine (List.pairwise_lt_range (n := n)).imp fun h => by omega
theorem idx_ref {M : List D} {e : Nat} {l : List D} (h : M[e]? = some (.lst l)) (i : Int) : idxS M (.ref e) (.int i) = L2.atI l i := by
  show (match M[e]?, D.int i with
    | some (.tup l), .int i => L2.atI l i
    | some (.lst l), .int i => L2.atI l i
    | some (.scr l), .int i => L2.atI l i
    | some (.dct _ l), y => dGet l y
    | _, _ => none) = _
  rw [h]
theorem set_ref {M : List D} {e j : Nat} {l : List D} (h : M[e]? = some (.lst l)) (hj : j < l.length) (v : D) : setS M (.ref e) (.int (j : Int)) v = some (M.set e (.lst (l.set j v))) := by
  show (match M[e]? with
    | some (.lst l) => (L2.ixN l.length (j : Int)).map fun j => M.set e (.lst (l.set j v))
    | _ => none) = _
  rw [h]
  show (L2.ixN l.length (j : Int)).map _ = _
  have : L2.ixN l.length (j : Int) = some j := by
    unfold L2.ixN
    rw [if_pos (by omega), if_pos (by omega)]
    simp
  rw [this]
  rfl
abbrev ewr (a b c : Int) : D := .lst [.int a, .int b, .int c]
theorem set_e0 {M : List D} {e : Nat} {a b c : Int} (h : M[e]? = some (ewr a b c)) (v : Int) : setS M (.ref e) (.int 0) (.int v) = some (M.set e (ewr v b c)) := set_ref (j := 0) h (show 0 < 3 by decide) _
theorem set_e2 {M : List D} {e : Nat} {a b c : Int} (h : M[e]? = some (ewr a b c)) (v : Int) : setS M (.ref e) (.int 2) (.int v) = some (M.set e (ewr a b v)) := set_ref (j := 2) h (show 2 < 3 by decide) _
theorem in_mod {i j : Int} (h : j ≠ 0) : intS .mod i j = some (i.fmod j) := if_pos h
theorem in_fdiv {i j : Int} (h : j ≠ 0) (h2 : j.natAbs < 1073741824) : intS .fdiv i j = some (i.fdiv j) := if_pos ⟨h, h2⟩
theorem blt_int (M : List D) (i : Int) : bltS M .int [.int i] = some (.int i) := rfl
theorem set_self {M : List D} {e : Nat} {x y : D} (h : M[e]? = some x) : (M.set e y)[e]? = some y := List.getElem?_set_self (List.getElem?_eq_some_iff.mp h).1
theorem clean_set {M : List D} {e : Nat} {x : D} {i : Int} : clean M (.int i) (M.set e x) = .ok (.int i) (M.set e x) := clean_same (by simp) rfl
theorem rgL_nat {many : Int} {n : Nat} (h : many = (n : Int)) : rgL 0 many = (List.range n).map fun i : Nat => D.int (i : Int) := by
  subst h
  unfold rgL
  rw [Int.sub_zero, Int.toNat_natCast]
  refine List.map_congr_left fun i _ => ?_
  rw [Int.zero_add]
theorem rg_ok {many : Int} (h : 0 ≤ many ∧ many ≤ 1000) : rgOk 0 many = true := by
  unfold rgOk
  simp only [Bool.and_eq_true, decide_eq_true_eq]
  omega
theorem clean_rest {M rest : List D} {d : D} (hd : bel M.length d = true) : clean M d (M ++ rest) = .ok d M := by
  unfold clean
  have e : (M ++ rest).take M.length = M := List.take_left' rfl
  rw [e, bqs_self, Bool.true_or, if_pos rfl, frz_bel hd]
theorem bels_set {b : Nat} {M : List D} {e : Nat} {x : D} (h : bels b M = true) (hx : bel b x = true) : bels b (M.set e x) = true := by
  rw [bels_iff] at h ⊢
  intro d hd
  rcases List.mem_or_eq_of_mem_set hd with z | z
  · exact h d z
  · rw [z]
    exact hx
theorem seq_next {cl : Cl} {s : S} {ss : Ss} {L L1 : Lo} {M M1 : List D} (h : exS cl s L M = .next L1 M1) : exSs cl (.cons s ss) L M = exSs cl ss L1 M1 := by
  rw [x_cons, h]
  rfl
theorem slc_last (M : List D) (l : List D) : slcS M (.tup l) none (some (-1)) = some (.tup l.dropLast) := by
  show some (D.tup (cutD l none (some (-1)))) = _
  unfold cutD
  rw [HT.sIx_none, List.drop_zero, Nat.sub_zero]
  have : HT.sIx l.length l.length (some (-1)) = l.length - 1 := by
    show (if (-1 : Int) < 0 then ((-1 : Int) + (l.length : Int)).toNat else min (-1 : Int).toNat l.length) = _
    rw [if_pos (by decide)]
    omega
  rw [this, List.dropLast_eq_take]
theorem add_t (M : List D) (l : List D) (d : D) (h : l.length ≤ 100) : binS M .add (.tup l) (.tup [d]) = some (.tup (l ++ [d])) := by
  show (if Bop.add = Bop.add ∧ l.length + 1 ≤ lim then some (D.tup (l ++ [d])) else none) = _
  rw [if_pos ⟨rfl, Nat.le_trans (Nat.add_le_add_right h 1) (by decide)⟩]
theorem add_l (M : List D) (l r : List D) (h : l.length + r.length ≤ lim) : binS M .add (.lst l) (.lst r) = some (.lst (l ++ r)) := by
  show (match cont M (.lst l), cont M (.lst r) with
    | some (.lst a), some (.lst b) => if Bop.add = Bop.add ∧ a.length + b.length ≤ lim then some (D.lst (a ++ b)) else none
    | _, _ => none) = _
  show (if Bop.add = Bop.add ∧ l.length + r.length ≤ lim then some (D.lst (l ++ r)) else none) = _
  rw [if_pos ⟨rfl, h⟩]
theorem mthK_lst (M : List D) (l : List D) : mthK M (.lst l) = true := rfl
theorem idxOf_mem {v : Int} : ∀ {l : List Int}, v ∈ l → ∃ j, idxOf v l = some j ∧ l[j]? = some v
  | [], h => by cases h
  | x :: r, h => by
    unfold idxOf
    by_cases hx : x = v
    · exact ⟨0, by rw [if_pos hx], by rw [hx]; rfl⟩
    · obtain ⟨j, h1, h2⟩ := idxOf_mem (l := r) (by
        rcases List.mem_cons.mp h with e | e
        · exact absurd e.symm hx
        · exact e)
      exact ⟨j + 1, by rw [if_neg hx, h1]; rfl, by simpa using h2⟩
theorem ret_of {cl : Cl} {e : E} {L : Lo} {M M' : List D} {d : D} (h : evE cl e L M = .ok d M') : exSs cl (.cons (.ret e) .nil) L M = .ret d M' := by
  rw [x_cons, x_ret, h]
  rfl
theorem ne_strS (M : List D) (x : PySem.Str) : cmpS M .ne (.str x) (.str x) = some false := by
  show some (!decide (x = x)) = _
  rw [decide_eq_true rfl]
  rfl
theorem ne_F (M : List D) : cmpS M .ne (.str "False") (.str "False") = some false := ne_strS M _
end MP
/-! The draws of the laws k76 to k82, and small judges: by their bodies, in any table. -/
namespace EW
open MP
def bEwer : Ss := .cons (.asg (.name 2) (.ite (.cmp .lt (.var 1) (.blt .len (.cons (.var 0) .nil))) (.blt .int (.cons (.idx (.var 0) (.var 1)) .nil)) (.bin .add (.bin .mul (.lit (.int 827)) (.var 1)) (.lit (.int 61))))) (.cons (.asg (.name 3) (.bin .mod (.blt .int (.cons (.blt .abs (.cons (.var 2) .nil)) .nil)) (.bin .pow (.bin .pow (.lit (.int 10)) (.lit (.int 47))) (.lit (.int 7))))) (.cons (.asg (.name 4) (.bin .add (.bin .add (.bin .add (.bin .mul (.bin .mod (.blt .int (.cons (.var 3) .nil)) (.lit (.int 2305843009213693907))) (.lit (.int 113))) (.bin .mul (.lit (.int 1123)) (.var 1))) (.bin .mul (.lit (.int 53)) (.blt .int (.cons (.cmp .lt (.var 2) (.lit (.int 0))) .nil)))) (.lit (.int 29)))) (.cons (.ret (.new false (.disp (.cons (.blt .max (.cons (.lit (.int 0)) (.cons (.bin .sub (.var 3) (.bin .pow (.lit (.int 10)) (.lit (.int 16)))) .nil))) (.cons (.var 4) (.cons (.lit (.int 0)) .nil)))))) .nil)))
def bDrip : Ss := .cons (.ite (.cmp .gt (.idx (.var 0) (.lit (.int 0))) (.lit (.int 0))) (.cons (.asg (.name 4) (.bin .mod (.blt .int (.cons (.idx (.var 0) (.lit (.int 0))) .nil)) (.var 1))) (.cons (.setI (.var 0) (.lit (.int 0)) (.bin .fdiv (.idx (.var 0) (.lit (.int 0))) (.var 1))) (.cons (.ret (.var 4)) .nil))) .nil) (.cons (.setI (.var 0) (.lit (.int 2)) (.bin .add (.idx (.var 0) (.lit (.int 2))) (.lit (.int 1)))) (.cons (.asg (.name 2) (.bin .mod (.blt .int (.cons (.bin .add (.idx (.var 0) (.lit (.int 1))) (.bin .mul (.lit (.int 32452843)) (.idx (.var 0) (.lit (.int 2))))) .nil)) (.lit (.int 2305843009213693951)))) (.cons (.asg (.name 3) (.bin .add (.bin .mul (.bin .mod (.blt .int (.cons (.bin .add (.bin .mul (.var 2) (.var 2)) (.bin .mul (.lit (.int 317)) (.idx (.var 0) (.lit (.int 2))))) .nil)) (.lit (.int 2305843009213693921))) (.lit (.int 15485867))) (.var 2))) (.cons (.ret (.bin .mod (.blt .int (.cons (.bin .fdiv (.var 3) (.lit (.int 65647))) .nil)) (.var 1))) .nil))))
def bSip (i : Nat) : Ss := .cons (.ret (.idx (.var 1) (.call i (.cons (.var 0) (.cons (.blt .len (.cons (.var 1) .nil)) .nil))))) .nil
def bAmt : Ss := .cons (.ret (.andE (.blt .isinst (.cons (.var 0) (.cons (.lit (.ty "int")) .nil))) (.andE (.notE (.blt .isinst (.cons (.var 0) (.cons (.lit (.ty "bool")) .nil)))) (.chain .le .le (.var 1) (.var 0) (.var 2))))) .nil
def bInt : Ss := .cons (.ret (.andE (.blt .isinst (.cons (.var 0) (.cons (.lit (.ty "int")) .nil))) (.notE (.blt .isinst (.cons (.var 0) (.cons (.lit (.ty "bool")) .nil)))))) .nil
def bWhole (i : Nat) : Ss := .cons (.ite (.orE (.notE (.tru (.blt .isinst (.cons (.var 1) (.cons (.lit (.ty "tuple")) .nil))))) (.notE (.tru (.blt .all (.cons (.new true (.comp [2] (.call i (.cons (.var 2) (.cons (.lit (.int 0)) (.cons (.bin .sub (.var 0) (.lit (.int 1))) .nil)))) (.name 2) (.seq (.var 1)) .nil)) .nil))))) (.cons (.ret (.lit (.bl false))) .nil) .nil) (.cons (.ret (.cmp .eq (.new true (.sorted (.var 1))) (.new true (.listRg (.lit (.int 0)) (.var 0))))) .nil)
def bOrd (i : Nat) : Ss := .cons (.ite (.orE (.notE (.tru (.blt .isinst (.cons (.var 1) (.cons (.lit (.ty "tuple")) .nil))))) (.cmp .ne (.blt .len (.cons (.var 1) .nil)) (.var 0))) (.cons (.ret (.lit (.bl false))) .nil) .nil) (.cons (.ite (.cmp .ne (.new true (.comp [2] (.lit (.int 1)) (.name 2) (.seq (.var 1)) (.cons (.notE (.tru (.call i (.cons (.var 2) .nil)))) .nil))) (.new true (.disp .nil))) (.cons (.ret (.lit (.bl false))) .nil) .nil) (.cons (.ret (.cmp .eq (.new true (.sorted (.var 1))) (.new true (.listRg (.lit (.int 0)) (.var 0))))) .nil))
variable {T : List FD}
theorem amt_run {i : Nat} (hT : T[i]? = some ⟨false, 3, 3, bAmt, false⟩) (k : Nat) (M : List D) (v : D) (lo hi : Int) (hv : flat v = true) : runF T 0 (k + 1) i [v, .int lo, .int hi] M = .ok (.bl (amt lo hi v)) M := by
  rw [run_eq hT rfl]
  cases v <;> first | cases hv | skip
  · simp [bAmt, bltS, tyS, isiS, amt]
  · simp [bAmt, bltS, tyS, isiS, amt]
  · rename_i j
    by_cases h : lo ≤ j <;> simp [bAmt, bltS, tyS, isiS, amt, h]
  · simp [bAmt, bltS, tyS, isiS, amt]
theorem drip {i : Nat} (hT : T[i]? = some ⟨false, 2, 5, bDrip, false⟩) (k : Nat) {M : List D} {e : Nat} {a b c : Int} (hM : M[e]? = some (ewr a b c)) {total : Int} (h0 : 0 < total) (h1 : total < 1000000) :
    ∃ r a' c', 0 ≤ r ∧ r < total ∧ runF T 0 (k + 1) i [.ref e, .int total] M = .ok (.int r) (M.set e (ewr a' b c')) := by
  have hne : total ≠ 0 := by omega
  by_cases ha : 0 < a
  · refine ⟨a.fmod total, a.fdiv total, c, Int.fmod_nonneg_of_pos a h0, Int.fmod_lt_of_pos a h0, ?_⟩
    rw [run_eq hT rfl]
    have h2 : decide (0 < a) = true := decide_eq_true ha
    have hm : intS .mod a total = some (a.fmod total) := in_mod hne
    have hd : intS .fdiv a total = some (a.fdiv total) := in_fdiv hne (by omega)
    have hs := set_e0 hM (a.fdiv total)
    simp only [bDrip, x_nil, x_cons, x_asg, x_ex, x_ret, x_ite, x_for, x_setI, x_aug, x_raise, e_var, e_lit, e_bin, e_neg, e_cmp, e_chain, e_and, e_or, e_not, e_ite, e_tru, e_tup, e_new, e_call, e_blt, e_mth, e_idx, e_slc, e_rev, p_nil, p_cons, es_nil, es_cons, c_nil, c_cons, n_disp, n_comp, n_comp2, n_listOf, n_listRg, n_sorted, n_dict0, e_dsp, e_setd, e_updt, e_callv, e_tupD, e_isN, es_star, n_listD, n_sortedD, i_keys, i_items, i_vals, x_asgIx, x_pass, x_brk, x_cont, x_raise, i_seq, i_range, i_enum, i_zip, clOf_call', cl_call, clOf_hi2, clOf_lower2, R.bind_ok, R.bind_exc, R.then_ok, R.then_exc, R.nx_ok, RS.seq_next, RS.seq_ret, RS.seq_exc, ofO_some, asg_name, asg_tup2, wipe_nil, wipe_cons, truth_bl, cont_ref, cont_tup, cont_lst, cont_scr, cont_int, cont_bl, cont_non, cont_str, cont_dct, bin_int, in_add, in_sub, cmp_lt, cmp_le, cmp_gt, cmp_ge, cmp_isnBl, cmp_eqI, cmp_neI, cmp_eqB, cmp_neB, at_0, at_1, at_2, fin_ret, fin_next, fin_keep, fin_exc, clean_int, clean_bl, clean_non, seq_tup, seq_lst, List.getElem?_cons_zero, List.getElem?_cons_succ, List.set_cons_zero, List.set_cons_succ, Option.map_some, List.map_cons, List.map_nil, if_true, if_false, Bool.false_eq_true, Bool.not_true, Bool.not_false, Bool.and_true, Bool.true_and, Bool.false_and, decide_true, decide_false, List.replicate, List.append, List.nil_append, List.cons_append, idx_ref hM, h2, hm, hd, hs, blt_int, clean_set]
  · have h2 : decide (0 < a) = false := decide_eq_false ha
    have hM2 := set_self (y := ewr a b (c + 1)) hM
    have hs := set_e2 hM (c + 1)
    generalize hc : c + 1 = c' at *
    have m1 : intS .mul 32452843 c' = some (32452843 * c') := in_mul (okL (by decide) (by decide))
    generalize hx : b + 32452843 * c' = x
    have m2 : intS .mod x 2305843009213693951 = some (x.fmod 2305843009213693951) := in_mod (by decide)
    have r1 : 0 ≤ x.fmod 2305843009213693951 := Int.fmod_nonneg_of_pos x (by decide)
    have r2 : x.fmod 2305843009213693951 < 2305843009213693951 := Int.fmod_lt_of_pos x (by decide)
    generalize x.fmod 2305843009213693951 = one at *
    have m3 : intS .mul one one = some (one * one) := in_mul (okL r1 (by omega))
    have m4 : intS .mul 317 c' = some (317 * c') := in_mul (okL (by decide) (by decide))
    generalize hy : one * one + 317 * c' = y
    have m5 : intS .mod y 2305843009213693921 = some (y.fmod 2305843009213693921) := in_mod (by decide)
    generalize y.fmod 2305843009213693921 = z at *
    have m6 : intS .mul z 15485867 = some (z * 15485867) := in_mul (okR (by decide) (by decide))
    generalize hu : z * 15485867 + one = u
    have m7 : intS .fdiv u 65647 = some (u.fdiv 65647) := in_fdiv (by decide) (by decide)
    generalize u.fdiv 65647 = v at *
    have m8 : intS .mod v total = some (v.fmod total) := in_mod hne
    refine ⟨v.fmod total, a, c', Int.fmod_nonneg_of_pos v h0, Int.fmod_lt_of_pos v h0, ?_⟩
    rw [run_eq hT rfl]
    simp only [bDrip, x_nil, x_cons, x_asg, x_ex, x_ret, x_ite, x_for, x_setI, x_aug, x_raise, e_var, e_lit, e_bin, e_neg, e_cmp, e_chain, e_and, e_or, e_not, e_ite, e_tru, e_tup, e_new, e_call, e_blt, e_mth, e_idx, e_slc, e_rev, p_nil, p_cons, es_nil, es_cons, c_nil, c_cons, n_disp, n_comp, n_comp2, n_listOf, n_listRg, n_sorted, n_dict0, e_dsp, e_setd, e_updt, e_callv, e_tupD, e_isN, es_star, n_listD, n_sortedD, i_keys, i_items, i_vals, x_asgIx, x_pass, x_brk, x_cont, x_raise, i_seq, i_range, i_enum, i_zip, clOf_call', cl_call, clOf_hi2, clOf_lower2, R.bind_ok, R.bind_exc, R.then_ok, R.then_exc, R.nx_ok, RS.seq_next, RS.seq_ret, RS.seq_exc, ofO_some, asg_name, asg_tup2, wipe_nil, wipe_cons, truth_bl, cont_ref, cont_tup, cont_lst, cont_scr, cont_int, cont_bl, cont_non, cont_str, cont_dct, bin_int, in_add, in_sub, cmp_lt, cmp_le, cmp_gt, cmp_ge, cmp_isnBl, cmp_eqI, cmp_neI, cmp_eqB, cmp_neB, at_0, at_1, at_2, fin_ret, fin_next, fin_keep, fin_exc, clean_int, clean_bl, clean_non, seq_tup, seq_lst, List.getElem?_cons_zero, List.getElem?_cons_succ, List.set_cons_zero, List.set_cons_succ, Option.map_some, List.map_cons, List.map_nil, if_true, if_false, Bool.false_eq_true, Bool.not_true, Bool.not_false, Bool.and_true, Bool.true_and, Bool.false_and, decide_true, decide_false, List.replicate, List.append, List.nil_append, List.cons_append, idx_ref hM, idx_ref hM2, h2, hc, hs, m1, hx, m2, m3, m4, hy, m5, m6, hu, m7, m8, blt_int, clean_set]
theorem sip {i j : Nat} (hT : T[i]? = some ⟨false, 2, 2, bSip j, false⟩) (hD : T[j]? = some ⟨false, 2, 5, bDrip, false⟩) (k : Nat) {M : List D} {e : Nat} {a b c : Int} (hM : M[e]? = some (ewr a b c)) {l : List Int} (h0 : 0 < l.length) (h1 : l.length < 1000) :
    ∃ v a' c', v ∈ l ∧ runF T 0 (k + 2) i [.ref e, .lst (l.map .int)] M = .ok (.int v) (M.set e (ewr a' b c')) := by
  obtain ⟨r, a', c', h2, h3, q⟩ := drip hD k hM (total := ((l.length : Nat) : Int)) (by omega) (by omega)
  obtain ⟨m, rfl⟩ : ∃ m : Nat, r = (m : Int) := ⟨r.toNat, by omega⟩
  have hr : m < l.length := by omega
  refine ⟨l[m], a', c', List.getElem_mem hr, ?_⟩
  rw [run_eq hT rfl]
  have e1 : bltS M .len [.lst (l.map .int)] = some (.int ((l.length : Nat) : Int)) := by
    show some (D.int ((l.map D.int).length : Nat)) = _
    rw [List.length_map]
  have e2 : idxS (M.set e (ewr a' b c')) (.lst (l.map .int)) (.int (m : Int)) = some (.int l[m]) := by
    refine L2.atI_nat ?_
    rw [List.getElem?_map, List.getElem?_eq_getElem hr]
    rfl
  simp only [bSip, x_nil, x_cons, x_asg, x_ex, x_ret, x_ite, x_for, x_setI, x_aug, x_raise, e_var, e_lit, e_bin, e_neg, e_cmp, e_chain, e_and, e_or, e_not, e_ite, e_tru, e_tup, e_new, e_call, e_blt, e_mth, e_idx, e_slc, e_rev, p_nil, p_cons, es_nil, es_cons, c_nil, c_cons, n_disp, n_comp, n_comp2, n_listOf, n_listRg, n_sorted, n_dict0, e_dsp, e_setd, e_updt, e_callv, e_tupD, e_isN, es_star, n_listD, n_sortedD, i_keys, i_items, i_vals, x_asgIx, x_pass, x_brk, x_cont, x_raise, i_seq, i_range, i_enum, i_zip, clOf_call', cl_call, clOf_hi2, clOf_lower2, R.bind_ok, R.bind_exc, R.then_ok, R.then_exc, R.nx_ok, RS.seq_next, RS.seq_ret, RS.seq_exc, ofO_some, asg_name, asg_tup2, wipe_nil, wipe_cons, truth_bl, cont_ref, cont_tup, cont_lst, cont_scr, cont_int, cont_bl, cont_non, cont_str, cont_dct, bin_int, in_add, in_sub, cmp_lt, cmp_le, cmp_gt, cmp_ge, cmp_isnBl, cmp_eqI, cmp_neI, cmp_eqB, cmp_neB, at_0, at_1, at_2, fin_ret, fin_next, fin_keep, fin_exc, clean_int, clean_bl, clean_non, seq_tup, seq_lst, List.getElem?_cons_zero, List.getElem?_cons_succ, List.set_cons_zero, List.set_cons_succ, Option.map_some, List.map_cons, List.map_nil, if_true, if_false, Bool.false_eq_true, Bool.not_true, Bool.not_false, Bool.and_true, Bool.true_and, Bool.false_and, decide_true, decide_false, List.replicate, List.append, List.nil_append, List.cons_append, e1, q, e2, clean_set]
theorem ewer {i : Nat} (hT : T[i]? = some ⟨true, 2, 5, bEwer, false⟩) (k : Nat) (M : List D) (ns : List Int) (s : Nat) : ∃ a b, runF T 0 (k + 1) i [.scr (ns.map .int), .int (s : Int)] M = .ok (.ref M.length) (M ++ [ewr a b 0]) := by
  obtain ⟨p, hp, q, hq, hq0⟩ : ∃ p, intS .pow 10 47 = some p ∧ ∃ q, intS .pow p 7 = some q ∧ q ≠ 0 := ⟨10 ^ 47, by decide +kernel, (10 ^ 47) ^ 7, by decide +kernel, by decide +kernel⟩
  obtain ⟨t, ht⟩ : ∃ t, intS .pow 10 16 = some t := ⟨10 ^ 16, by decide +kernel⟩
  have hcell : ∃ cell, ∀ L : Lo, L[0]? = some (some (.scr (ns.map .int))) → L[1]? = some (some (.int (s : Int))) → evE (clOf T 0 k) (.ite (.cmp .lt (.var 1) (.blt .len (.cons (.var 0) .nil))) (.blt .int (.cons (.idx (.var 0) (.var 1)) .nil)) (.bin .add (.bin .mul (.lit (.int 827)) (.var 1)) (.lit (.int 61)))) L M = .ok (.int cell) M := by
    have hl : bltS M .len [.scr (ns.map .int)] = some (.int ((ns.length : Nat) : Int)) := by
      show some (D.int ((ns.map D.int).length : Nat)) = _
      rw [List.length_map]
    by_cases h : s < ns.length
    · refine ⟨ns[s], fun L h0 h1 => ?_⟩
      have hd : decide ((s : Int) < ((ns.length : Nat) : Int)) = true := decide_eq_true (by omega)
      have hi : idxS M (.scr (ns.map .int)) (.int (s : Int)) = some (.int ns[s]) := by
        refine L2.atI_nat ?_
        rw [List.getElem?_map, List.getElem?_eq_getElem h]
        rfl
      simp only [x_nil, x_cons, x_asg, x_ex, x_ret, x_ite, x_for, x_setI, x_aug, x_raise, e_var, e_lit, e_bin, e_neg, e_cmp, e_chain, e_and, e_or, e_not, e_ite, e_tru, e_tup, e_new, e_call, e_blt, e_mth, e_idx, e_slc, e_rev, p_nil, p_cons, es_nil, es_cons, c_nil, c_cons, n_disp, n_comp, n_comp2, n_listOf, n_listRg, n_sorted, n_dict0, e_dsp, e_setd, e_updt, e_callv, e_tupD, e_isN, es_star, n_listD, n_sortedD, i_keys, i_items, i_vals, x_asgIx, x_pass, x_brk, x_cont, x_raise, i_seq, i_range, i_enum, i_zip, clOf_call', cl_call, clOf_hi2, clOf_lower2, R.bind_ok, R.bind_exc, R.then_ok, R.then_exc, R.nx_ok, RS.seq_next, RS.seq_ret, RS.seq_exc, ofO_some, asg_name, asg_tup2, wipe_nil, wipe_cons, truth_bl, cont_ref, cont_tup, cont_lst, cont_scr, cont_int, cont_bl, cont_non, cont_str, cont_dct, bin_int, in_add, in_sub, cmp_lt, cmp_le, cmp_gt, cmp_ge, cmp_isnBl, cmp_eqI, cmp_neI, cmp_eqB, cmp_neB, at_0, at_1, at_2, fin_ret, fin_next, fin_keep, fin_exc, clean_int, clean_bl, clean_non, seq_tup, seq_lst, List.getElem?_cons_zero, List.getElem?_cons_succ, List.set_cons_zero, List.set_cons_succ, Option.map_some, List.map_cons, List.map_nil, if_true, if_false, Bool.false_eq_true, Bool.not_true, Bool.not_false, Bool.and_true, Bool.true_and, Bool.false_and, decide_true, decide_false, List.replicate, List.append, List.nil_append, List.cons_append, h0, h1, hl, hd, hi, blt_int]
    · refine ⟨827 * (s : Int) + 61, fun L h0 h1 => ?_⟩
      have hd : decide ((s : Int) < ((ns.length : Nat) : Int)) = false := decide_eq_false (by omega)
      have hm : intS .mul 827 (s : Int) = some (827 * (s : Int)) := in_mul (okL (by decide) (by decide))
      simp only [x_nil, x_cons, x_asg, x_ex, x_ret, x_ite, x_for, x_setI, x_aug, x_raise, e_var, e_lit, e_bin, e_neg, e_cmp, e_chain, e_and, e_or, e_not, e_ite, e_tru, e_tup, e_new, e_call, e_blt, e_mth, e_idx, e_slc, e_rev, p_nil, p_cons, es_nil, es_cons, c_nil, c_cons, n_disp, n_comp, n_comp2, n_listOf, n_listRg, n_sorted, n_dict0, e_dsp, e_setd, e_updt, e_callv, e_tupD, e_isN, es_star, n_listD, n_sortedD, i_keys, i_items, i_vals, x_asgIx, x_pass, x_brk, x_cont, x_raise, i_seq, i_range, i_enum, i_zip, clOf_call', cl_call, clOf_hi2, clOf_lower2, R.bind_ok, R.bind_exc, R.then_ok, R.then_exc, R.nx_ok, RS.seq_next, RS.seq_ret, RS.seq_exc, ofO_some, asg_name, asg_tup2, wipe_nil, wipe_cons, truth_bl, cont_ref, cont_tup, cont_lst, cont_scr, cont_int, cont_bl, cont_non, cont_str, cont_dct, bin_int, in_add, in_sub, cmp_lt, cmp_le, cmp_gt, cmp_ge, cmp_isnBl, cmp_eqI, cmp_neI, cmp_eqB, cmp_neB, at_0, at_1, at_2, fin_ret, fin_next, fin_keep, fin_exc, clean_int, clean_bl, clean_non, seq_tup, seq_lst, List.getElem?_cons_zero, List.getElem?_cons_succ, List.set_cons_zero, List.set_cons_succ, Option.map_some, List.map_cons, List.map_nil, if_true, if_false, Bool.false_eq_true, Bool.not_true, Bool.not_false, Bool.and_true, Bool.true_and, Bool.false_and, decide_true, decide_false, List.replicate, List.append, List.nil_append, List.cons_append, h0, h1, hl, hd, hm]
  obtain ⟨cell, hcell⟩ := hcell
  have hcell := hcell [some (.scr (ns.map .int)), some (.int (s : Int)), none, none, none] rfl rfl
  generalize (s : Int) = si at *
  have habs : bltS M .abs [.int cell] = some (.int (if cell < 0 then -cell else cell)) := rfl
  generalize (if cell < 0 then -cell else cell) = ca at *
  have hg : intS .mod ca q = some (ca.fmod q) := in_mod hq0
  generalize ca.fmod q = great at *
  have h1 : intS .mod great 2305843009213693907 = some (great.fmod 2305843009213693907) := in_mod (by decide)
  generalize great.fmod 2305843009213693907 = g1 at *
  have h2 : intS .mul g1 113 = some (g1 * 113) := in_mul (okR (by decide) (by decide))
  generalize g1 * 113 = g2 at *
  have h3 : intS .mul 1123 si = some (1123 * si) := in_mul (okL (by decide) (by decide))
  generalize 1123 * si = g3 at *
  have h4 : bltS M .int [.bl (decide (cell < 0))] = some (.int (if decide (cell < 0) then 1 else 0)) := rfl
  generalize (if decide (cell < 0) = true then (1 : Int) else 0) = g4 at *
  have h5 : intS .mul 53 g4 = some (53 * g4) := in_mul (okL (by decide) (by decide))
  generalize 53 * g4 = g5 at *
  have h6 : bltS M .max [.int 0, .int (great - t)] = some (.int (if great - t > 0 then great - t else 0)) := rfl
  generalize (if great - t > 0 then great - t else 0) = mx at *
  have hz : ([D.int mx, D.int (g2 + g3 + g5 + 29), D.int 0]).length ≤ lim := by
    show 3 ≤ lim
    decide
  refine ⟨mx, g2 + g3 + g5 + 29, ?_⟩
  rw [run_eq hT rfl]
  show fin true M (exSs (clOf T 0 k) bEwer [some (.scr (ns.map .int)), some (.int si), none, none, none] M) = _
  rw [show exSs (clOf T 0 k) bEwer [some (.scr (ns.map .int)), some (.int si), none, none, none] M = _ from seq_next (L1 := [some (.scr (ns.map .int)), some (.int si), some (.int cell), none, none]) (M1 := M) (by rw [x_asg, hcell]; rfl)]
  simp only [x_nil, x_cons, x_asg, x_ex, x_ret, x_ite, x_for, x_setI, x_aug, x_raise, e_var, e_lit, e_bin, e_neg, e_cmp, e_chain, e_and, e_or, e_not, e_ite, e_tru, e_tup, e_new, e_call, e_blt, e_mth, e_idx, e_slc, e_rev, p_nil, p_cons, es_nil, es_cons, c_nil, c_cons, n_disp, n_comp, n_comp2, n_listOf, n_listRg, n_sorted, n_dict0, e_dsp, e_setd, e_updt, e_callv, e_tupD, e_isN, es_star, n_listD, n_sortedD, i_keys, i_items, i_vals, x_asgIx, x_pass, x_brk, x_cont, x_raise, i_seq, i_range, i_enum, i_zip, clOf_call', cl_call, clOf_hi2, clOf_lower2, R.bind_ok, R.bind_exc, R.then_ok, R.then_exc, R.nx_ok, RS.seq_next, RS.seq_ret, RS.seq_exc, ofO_some, asg_name, asg_tup2, wipe_nil, wipe_cons, truth_bl, cont_ref, cont_tup, cont_lst, cont_scr, cont_int, cont_bl, cont_non, cont_str, cont_dct, bin_int, in_add, in_sub, cmp_lt, cmp_le, cmp_gt, cmp_ge, cmp_isnBl, cmp_eqI, cmp_neI, cmp_eqB, cmp_neB, at_0, at_1, at_2, fin_ret, fin_next, fin_keep, fin_exc, clean_int, clean_bl, clean_non, seq_tup, seq_lst, List.getElem?_cons_zero, List.getElem?_cons_succ, List.set_cons_zero, List.set_cons_succ, Option.map_some, List.map_cons, List.map_nil, if_true, if_false, Bool.false_eq_true, Bool.not_true, Bool.not_false, Bool.and_true, Bool.true_and, Bool.false_and, decide_true, decide_false, List.replicate, List.append, List.nil_append, List.cons_append, habs, blt_int, hp, hq, hg, h1, h2, h3, h4, h5, ht, h6, hz]
theorem int_run {i : Nat} (hT : T[i]? = some ⟨false, 1, 1, bInt, false⟩) (k : Nat) (M : List D) (v : D) (hv : flat v = true) : runF T 0 (k + 1) i [v] M = .ok (.bl (isI v)) M := by
  rw [run_eq hT rfl]
  cases v <;> first | cases hv | skip
  · have e1 : bltS M .isinst [.non, .ty "int"] = some (.bl false) := rfl
    simp only [bInt, x_nil, x_cons, x_asg, x_ex, x_ret, x_ite, x_for, x_setI, x_aug, x_raise, e_var, e_lit, e_bin, e_neg, e_cmp, e_chain, e_and, e_or, e_not, e_ite, e_tru, e_tup, e_new, e_call, e_blt, e_mth, e_idx, e_slc, e_rev, p_nil, p_cons, es_nil, es_cons, c_nil, c_cons, n_disp, n_comp, n_comp2, n_listOf, n_listRg, n_sorted, n_dict0, e_dsp, e_setd, e_updt, e_callv, e_tupD, e_isN, es_star, n_listD, n_sortedD, i_keys, i_items, i_vals, x_asgIx, x_pass, x_brk, x_cont, x_raise, i_seq, i_range, i_enum, i_zip, clOf_call', cl_call, clOf_hi2, clOf_lower2, R.bind_ok, R.bind_exc, R.then_ok, R.then_exc, R.nx_ok, RS.seq_next, RS.seq_ret, RS.seq_exc, ofO_some, asg_name, asg_tup2, wipe_nil, wipe_cons, truth_bl, cont_ref, cont_tup, cont_lst, cont_scr, cont_int, cont_bl, cont_non, cont_str, cont_dct, bin_int, in_add, in_sub, cmp_lt, cmp_le, cmp_gt, cmp_ge, cmp_isnBl, cmp_eqI, cmp_neI, cmp_eqB, cmp_neB, at_0, at_1, at_2, fin_ret, fin_next, fin_keep, fin_exc, clean_int, clean_bl, clean_non, seq_tup, seq_lst, List.getElem?_cons_zero, List.getElem?_cons_succ, List.set_cons_zero, List.set_cons_succ, Option.map_some, List.map_cons, List.map_nil, if_true, if_false, Bool.false_eq_true, Bool.not_true, Bool.not_false, Bool.and_true, Bool.true_and, Bool.false_and, decide_true, decide_false, List.replicate, List.append, List.nil_append, List.cons_append, e1, isI]
  · rename_i b
    have e1 : bltS M .isinst [.bl b, .ty "int"] = some (.bl true) := rfl
    have e2 : bltS M .isinst [.bl b, .ty "bool"] = some (.bl true) := rfl
    simp only [bInt, x_nil, x_cons, x_asg, x_ex, x_ret, x_ite, x_for, x_setI, x_aug, x_raise, e_var, e_lit, e_bin, e_neg, e_cmp, e_chain, e_and, e_or, e_not, e_ite, e_tru, e_tup, e_new, e_call, e_blt, e_mth, e_idx, e_slc, e_rev, p_nil, p_cons, es_nil, es_cons, c_nil, c_cons, n_disp, n_comp, n_comp2, n_listOf, n_listRg, n_sorted, n_dict0, e_dsp, e_setd, e_updt, e_callv, e_tupD, e_isN, es_star, n_listD, n_sortedD, i_keys, i_items, i_vals, x_asgIx, x_pass, x_brk, x_cont, x_raise, i_seq, i_range, i_enum, i_zip, clOf_call', cl_call, clOf_hi2, clOf_lower2, R.bind_ok, R.bind_exc, R.then_ok, R.then_exc, R.nx_ok, RS.seq_next, RS.seq_ret, RS.seq_exc, ofO_some, asg_name, asg_tup2, wipe_nil, wipe_cons, truth_bl, cont_ref, cont_tup, cont_lst, cont_scr, cont_int, cont_bl, cont_non, cont_str, cont_dct, bin_int, in_add, in_sub, cmp_lt, cmp_le, cmp_gt, cmp_ge, cmp_isnBl, cmp_eqI, cmp_neI, cmp_eqB, cmp_neB, at_0, at_1, at_2, fin_ret, fin_next, fin_keep, fin_exc, clean_int, clean_bl, clean_non, seq_tup, seq_lst, List.getElem?_cons_zero, List.getElem?_cons_succ, List.set_cons_zero, List.set_cons_succ, Option.map_some, List.map_cons, List.map_nil, if_true, if_false, Bool.false_eq_true, Bool.not_true, Bool.not_false, Bool.and_true, Bool.true_and, Bool.false_and, decide_true, decide_false, List.replicate, List.append, List.nil_append, List.cons_append, e1, e2, isI]
  · rename_i j
    have e1 : bltS M .isinst [.int j, .ty "int"] = some (.bl true) := rfl
    have e2 : bltS M .isinst [.int j, .ty "bool"] = some (.bl false) := rfl
    simp only [bInt, x_nil, x_cons, x_asg, x_ex, x_ret, x_ite, x_for, x_setI, x_aug, x_raise, e_var, e_lit, e_bin, e_neg, e_cmp, e_chain, e_and, e_or, e_not, e_ite, e_tru, e_tup, e_new, e_call, e_blt, e_mth, e_idx, e_slc, e_rev, p_nil, p_cons, es_nil, es_cons, c_nil, c_cons, n_disp, n_comp, n_comp2, n_listOf, n_listRg, n_sorted, n_dict0, e_dsp, e_setd, e_updt, e_callv, e_tupD, e_isN, es_star, n_listD, n_sortedD, i_keys, i_items, i_vals, x_asgIx, x_pass, x_brk, x_cont, x_raise, i_seq, i_range, i_enum, i_zip, clOf_call', cl_call, clOf_hi2, clOf_lower2, R.bind_ok, R.bind_exc, R.then_ok, R.then_exc, R.nx_ok, RS.seq_next, RS.seq_ret, RS.seq_exc, ofO_some, asg_name, asg_tup2, wipe_nil, wipe_cons, truth_bl, cont_ref, cont_tup, cont_lst, cont_scr, cont_int, cont_bl, cont_non, cont_str, cont_dct, bin_int, in_add, in_sub, cmp_lt, cmp_le, cmp_gt, cmp_ge, cmp_isnBl, cmp_eqI, cmp_neI, cmp_eqB, cmp_neB, at_0, at_1, at_2, fin_ret, fin_next, fin_keep, fin_exc, clean_int, clean_bl, clean_non, seq_tup, seq_lst, List.getElem?_cons_zero, List.getElem?_cons_succ, List.set_cons_zero, List.set_cons_succ, Option.map_some, List.map_cons, List.map_nil, if_true, if_false, Bool.false_eq_true, Bool.not_true, Bool.not_false, Bool.and_true, Bool.true_and, Bool.false_and, decide_true, decide_false, List.replicate, List.append, List.nil_append, List.cons_append, e1, e2, isI]
  · rename_i x
    have e1 : bltS M .isinst [.str x, .ty "int"] = some (.bl false) := rfl
    simp only [bInt, x_nil, x_cons, x_asg, x_ex, x_ret, x_ite, x_for, x_setI, x_aug, x_raise, e_var, e_lit, e_bin, e_neg, e_cmp, e_chain, e_and, e_or, e_not, e_ite, e_tru, e_tup, e_new, e_call, e_blt, e_mth, e_idx, e_slc, e_rev, p_nil, p_cons, es_nil, es_cons, c_nil, c_cons, n_disp, n_comp, n_comp2, n_listOf, n_listRg, n_sorted, n_dict0, e_dsp, e_setd, e_updt, e_callv, e_tupD, e_isN, es_star, n_listD, n_sortedD, i_keys, i_items, i_vals, x_asgIx, x_pass, x_brk, x_cont, x_raise, i_seq, i_range, i_enum, i_zip, clOf_call', cl_call, clOf_hi2, clOf_lower2, R.bind_ok, R.bind_exc, R.then_ok, R.then_exc, R.nx_ok, RS.seq_next, RS.seq_ret, RS.seq_exc, ofO_some, asg_name, asg_tup2, wipe_nil, wipe_cons, truth_bl, cont_ref, cont_tup, cont_lst, cont_scr, cont_int, cont_bl, cont_non, cont_str, cont_dct, bin_int, in_add, in_sub, cmp_lt, cmp_le, cmp_gt, cmp_ge, cmp_isnBl, cmp_eqI, cmp_neI, cmp_eqB, cmp_neB, at_0, at_1, at_2, fin_ret, fin_next, fin_keep, fin_exc, clean_int, clean_bl, clean_non, seq_tup, seq_lst, List.getElem?_cons_zero, List.getElem?_cons_succ, List.set_cons_zero, List.set_cons_succ, Option.map_some, List.map_cons, List.map_nil, if_true, if_false, Bool.false_eq_true, Bool.not_true, Bool.not_false, Bool.and_true, Bool.true_and, Bool.false_and, decide_true, decide_false, List.replicate, List.append, List.nil_append, List.cons_append, e1, isI]
theorem comp_whole {j : Nat} (hA : T[j]? = some ⟨false, 3, 3, bAmt, false⟩) (k : Nat) (M : List D) (many : Int) (d : D) (l : List D) (hf : l.all flat = true) :
    compL ⟨l, none⟩ (.name 2) [some (.int many), some d, none] (evC (clOf T 0 (k + 1)) .nil) (evE (clOf T 0 (k + 1)) (.call j (.cons (.var 2) (.cons (.lit (.int 0)) (.cons (.bin .sub (.var 0) (.lit (.int 1))) .nil))))) l M = .ok ((l.map (amt 0 (many - 1))).map D.bl) M := by
  have q := compL_map (w := ⟨l, none⟩) (tg := .name 2) (L := [some (.int many), some d, none]) (M := M) (cl := (clOf T 0 (k + 1))) (elt := evE (clOf T 0 (k + 1)) (.call j (.cons (.var 2) (.cons (.lit (.int 0)) (.cons (.bin .sub (.var 0) (.lit (.int 1))) .nil))))) rfl id (fun x => .bl (amt 0 (many - 1) x)) l (fun u hu => by
    refine ⟨_, rfl, ?_⟩
    have q := amt_run hA k M u 0 (many - 1) (List.all_eq_true.mp hf u hu)
    simp only [id, x_nil, x_cons, x_asg, x_ex, x_ret, x_ite, x_for, x_setI, x_aug, x_raise, e_var, e_lit, e_bin, e_neg, e_cmp, e_chain, e_and, e_or, e_not, e_ite, e_tru, e_tup, e_new, e_call, e_blt, e_mth, e_idx, e_slc, e_rev, p_nil, p_cons, es_nil, es_cons, c_nil, c_cons, n_disp, n_comp, n_comp2, n_listOf, n_listRg, n_sorted, n_dict0, e_dsp, e_setd, e_updt, e_callv, e_tupD, e_isN, es_star, n_listD, n_sortedD, i_keys, i_items, i_vals, x_asgIx, x_pass, x_brk, x_cont, x_raise, i_seq, i_range, i_enum, i_zip, clOf_call', cl_call, clOf_hi2, clOf_lower2, R.bind_ok, R.bind_exc, R.then_ok, R.then_exc, R.nx_ok, RS.seq_next, RS.seq_ret, RS.seq_exc, ofO_some, asg_name, asg_tup2, wipe_nil, wipe_cons, truth_bl, cont_ref, cont_tup, cont_lst, cont_scr, cont_int, cont_bl, cont_non, cont_str, cont_dct, bin_int, in_add, in_sub, cmp_lt, cmp_le, cmp_gt, cmp_ge, cmp_isnBl, cmp_eqI, cmp_neI, cmp_eqB, cmp_neB, at_0, at_1, at_2, fin_ret, fin_next, fin_keep, fin_exc, clean_int, clean_bl, clean_non, seq_tup, seq_lst, List.getElem?_cons_zero, List.getElem?_cons_succ, List.set_cons_zero, List.set_cons_succ, Option.map_some, List.map_cons, List.map_nil, if_true, if_false, Bool.false_eq_true, Bool.not_true, Bool.not_false, Bool.and_true, Bool.true_and, Bool.false_and, decide_true, decide_false, List.replicate, List.append, List.nil_append, List.cons_append, q])
  rw [List.map_id] at q
  rw [q, List.map_map]
  rfl
theorem whole {i j : Nat} (hT : T[i]? = some ⟨false, 2, 3, bWhole j, false⟩) (hA : T[j]? = some ⟨false, 3, 3, bAmt, false⟩) (k : Nat) (M : List D) (many : Int) (hm : 0 ≤ many ∧ many ≤ 9) (l : List D) (hf : l.all flat = true) (hl : l.length ≤ lim) :
    runF T 0 (k + 2) i [.int many, .tup l] M = .ok (.bl (amts many l && match allInts l with | some ns => srtIs many ns | none => false)) M := by
  rw [run_eq hT rfl]
  have hc := comp_whole hA k M many (.tup l) l hf
  have ha : (l.map (amt 0 (many - 1))).all id = amts many l := by
    rw [List.all_map]
    rfl
  by_cases h : amts many l = true
  · obtain ⟨ns, h1, h2⟩ := amts_ints hf h
    have hr : (rgOk 0 many && decide ((many - 0).toNat ≤ 2 ^ 24)) = true := by
      unfold rgOk
      simp only [Bool.and_eq_true, decide_eq_true_eq]
      omega
    have he : cmpS M .eq (.lst ((sortI ns).map .int)) (.lst (rgL 0 many)) = some (srtIs many ns) := by
      rw [rg0, cmp_eqL]
      rfl
    simp only [bWhole, x_nil, x_cons, x_asg, x_ex, x_ret, x_ite, x_for, x_setI, x_aug, x_raise, e_var, e_lit, e_bin, e_neg, e_cmp, e_chain, e_and, e_or, e_not, e_ite, e_tru, e_tup, e_new, e_call, e_blt, e_mth, e_idx, e_slc, e_rev, p_nil, p_cons, es_nil, es_cons, c_nil, c_cons, n_disp, n_comp, n_comp2, n_listOf, n_listRg, n_sorted, n_dict0, e_dsp, e_setd, e_updt, e_callv, e_tupD, e_isN, es_star, n_listD, n_sortedD, i_keys, i_items, i_vals, x_asgIx, x_pass, x_brk, x_cont, x_raise, i_seq, i_range, i_enum, i_zip, clOf_call', cl_call, clOf_hi2, clOf_lower2, R.bind_ok, R.bind_exc, R.then_ok, R.then_exc, R.nx_ok, RS.seq_next, RS.seq_ret, RS.seq_exc, ofO_some, asg_name, asg_tup2, wipe_nil, wipe_cons, truth_bl, cont_ref, cont_tup, cont_lst, cont_scr, cont_int, cont_bl, cont_non, cont_str, cont_dct, bin_int, in_add, in_sub, cmp_lt, cmp_le, cmp_gt, cmp_ge, cmp_isnBl, cmp_eqI, cmp_neI, cmp_eqB, cmp_neB, at_0, at_1, at_2, fin_ret, fin_next, fin_keep, fin_exc, clean_int, clean_bl, clean_non, seq_tup, seq_lst, List.getElem?_cons_zero, List.getElem?_cons_succ, List.set_cons_zero, List.set_cons_succ, Option.map_some, List.map_cons, List.map_nil, if_true, if_false, Bool.false_eq_true, Bool.not_true, Bool.not_false, Bool.and_true, Bool.true_and, Bool.false_and, decide_true, decide_false, List.replicate, List.append, List.nil_append, List.cons_append, ist_tup, hl, hc, blt_all, ha, h, h1, hr, he]
  · rw [Bool.not_eq_true] at h
    simp only [bWhole, x_nil, x_cons, x_asg, x_ex, x_ret, x_ite, x_for, x_setI, x_aug, x_raise, e_var, e_lit, e_bin, e_neg, e_cmp, e_chain, e_and, e_or, e_not, e_ite, e_tru, e_tup, e_new, e_call, e_blt, e_mth, e_idx, e_slc, e_rev, p_nil, p_cons, es_nil, es_cons, c_nil, c_cons, n_disp, n_comp, n_comp2, n_listOf, n_listRg, n_sorted, n_dict0, e_dsp, e_setd, e_updt, e_callv, e_tupD, e_isN, es_star, n_listD, n_sortedD, i_keys, i_items, i_vals, x_asgIx, x_pass, x_brk, x_cont, x_raise, i_seq, i_range, i_enum, i_zip, clOf_call', cl_call, clOf_hi2, clOf_lower2, R.bind_ok, R.bind_exc, R.then_ok, R.then_exc, R.nx_ok, RS.seq_next, RS.seq_ret, RS.seq_exc, ofO_some, asg_name, asg_tup2, wipe_nil, wipe_cons, truth_bl, cont_ref, cont_tup, cont_lst, cont_scr, cont_int, cont_bl, cont_non, cont_str, cont_dct, bin_int, in_add, in_sub, cmp_lt, cmp_le, cmp_gt, cmp_ge, cmp_isnBl, cmp_eqI, cmp_neI, cmp_eqB, cmp_neB, at_0, at_1, at_2, fin_ret, fin_next, fin_keep, fin_exc, clean_int, clean_bl, clean_non, seq_tup, seq_lst, List.getElem?_cons_zero, List.getElem?_cons_succ, List.set_cons_zero, List.set_cons_succ, Option.map_some, List.map_cons, List.map_nil, if_true, if_false, Bool.false_eq_true, Bool.not_true, Bool.not_false, Bool.and_true, Bool.true_and, Bool.false_and, decide_true, decide_false, List.replicate, List.append, List.nil_append, List.cons_append, ist_tup, hl, hc, blt_all, ha, h]
theorem whole_no {i j : Nat} (hT : T[i]? = some ⟨false, 2, 3, bWhole j, false⟩) (k : Nat) (M : List D) (many : Int) (d : D) (hd : bltS M .isinst [d, .ty "tuple"] = some (.bl false)) : runF T 0 (k + 1) i [.int many, d] M = .ok (.bl false) M := by
  rw [run_eq hT rfl]
  simp only [bWhole, x_nil, x_cons, x_asg, x_ex, x_ret, x_ite, x_for, x_setI, x_aug, x_raise, e_var, e_lit, e_bin, e_neg, e_cmp, e_chain, e_and, e_or, e_not, e_ite, e_tru, e_tup, e_new, e_call, e_blt, e_mth, e_idx, e_slc, e_rev, p_nil, p_cons, es_nil, es_cons, c_nil, c_cons, n_disp, n_comp, n_comp2, n_listOf, n_listRg, n_sorted, n_dict0, e_dsp, e_setd, e_updt, e_callv, e_tupD, e_isN, es_star, n_listD, n_sortedD, i_keys, i_items, i_vals, x_asgIx, x_pass, x_brk, x_cont, x_raise, i_seq, i_range, i_enum, i_zip, clOf_call', cl_call, clOf_hi2, clOf_lower2, R.bind_ok, R.bind_exc, R.then_ok, R.then_exc, R.nx_ok, RS.seq_next, RS.seq_ret, RS.seq_exc, ofO_some, asg_name, asg_tup2, wipe_nil, wipe_cons, truth_bl, cont_ref, cont_tup, cont_lst, cont_scr, cont_int, cont_bl, cont_non, cont_str, cont_dct, bin_int, in_add, in_sub, cmp_lt, cmp_le, cmp_gt, cmp_ge, cmp_isnBl, cmp_eqI, cmp_neI, cmp_eqB, cmp_neB, at_0, at_1, at_2, fin_ret, fin_next, fin_keep, fin_exc, clean_int, clean_bl, clean_non, seq_tup, seq_lst, List.getElem?_cons_zero, List.getElem?_cons_succ, List.set_cons_zero, List.set_cons_succ, Option.map_some, List.map_cons, List.map_nil, if_true, if_false, Bool.false_eq_true, Bool.not_true, Bool.not_false, Bool.and_true, Bool.true_and, Bool.false_and, decide_true, decide_false, List.replicate, List.append, List.nil_append, List.cons_append, hd]
theorem ord {i j : Nat} (hT : T[i]? = some ⟨false, 2, 3, bOrd j, false⟩) (hI : T[j]? = some ⟨false, 1, 1, bInt, false⟩) (k : Nat) (M : List D) (n : Int) (hn : 0 ≤ n ∧ n ≤ 9) (l : List D) (hf : l.all flat = true) (hl : l.length ≤ lim) :
    runF T 0 (k + 2) i [.int n, .tup l] M = .ok (.bl (decide (((l.length : Nat) : Int) = n) && match allInts l with | some ns => srtIs n ns | none => false)) M := by
  rw [run_eq hT rfl]
  by_cases hne : ((l.length : Nat) : Int) = n
  · have hc := compL_pure (w := ⟨l, none⟩) (tg := .name 2) (L := [some (.int n), some (.tup l), none]) (M := M) (cnd := evC (clOf T 0 (k + 1)) (.cons (.notE (.tru (.call j (.cons (.var 2) .nil)))) .nil)) (elt := evE (clOf T 0 (k + 1)) (.lit (.int 1)))
      rfl id (fun x => !isI x) (fun _ => .int 1) l (fun u hu => by
        refine ⟨_, rfl, ?_, fun _ => rfl⟩
        have q := int_run hI k M u (List.all_eq_true.mp hf u hu)
        simp only [id, x_nil, x_cons, x_asg, x_ex, x_ret, x_ite, x_for, x_setI, x_aug, x_raise, e_var, e_lit, e_bin, e_neg, e_cmp, e_chain, e_and, e_or, e_not, e_ite, e_tru, e_tup, e_new, e_call, e_blt, e_mth, e_idx, e_slc, e_rev, p_nil, p_cons, es_nil, es_cons, c_nil, c_cons, n_disp, n_comp, n_comp2, n_listOf, n_listRg, n_sorted, n_dict0, e_dsp, e_setd, e_updt, e_callv, e_tupD, e_isN, es_star, n_listD, n_sortedD, i_keys, i_items, i_vals, x_asgIx, x_pass, x_brk, x_cont, x_raise, i_seq, i_range, i_enum, i_zip, clOf_call', cl_call, clOf_hi2, clOf_lower2, R.bind_ok, R.bind_exc, R.then_ok, R.then_exc, R.nx_ok, RS.seq_next, RS.seq_ret, RS.seq_exc, ofO_some, asg_name, asg_tup2, wipe_nil, wipe_cons, truth_bl, cont_ref, cont_tup, cont_lst, cont_scr, cont_int, cont_bl, cont_non, cont_str, cont_dct, bin_int, in_add, in_sub, cmp_lt, cmp_le, cmp_gt, cmp_ge, cmp_isnBl, cmp_eqI, cmp_neI, cmp_eqB, cmp_neB, at_0, at_1, at_2, fin_ret, fin_next, fin_keep, fin_exc, clean_int, clean_bl, clean_non, seq_tup, seq_lst, List.getElem?_cons_zero, List.getElem?_cons_succ, List.set_cons_zero, List.set_cons_succ, Option.map_some, List.map_cons, List.map_nil, if_true, if_false, Bool.false_eq_true, Bool.not_true, Bool.not_false, Bool.and_true, Bool.true_and, Bool.false_and, decide_true, decide_false, List.replicate, List.append, List.nil_append, List.cons_append, q])
    rw [List.map_id] at hc
    have he : ((l.filter fun x => !isI x).map fun _ => D.int 1) = ((l.filter fun x => !isI x).map fun _ => (1 : Int)).map D.int := by
      rw [List.map_map]
      rfl
    have hm : cmpS M .ne (.lst (((l.filter fun x => !isI x).map fun _ => (1 : Int)).map D.int)) (.lst []) = some (!decide (((l.filter fun x => !isI x).map fun _ => (1 : Int)) = [])) := cmp_neL M _ []
    have hz : ([] : List D).length ≤ lim := Nat.zero_le _
    cases ha : allInts l with
    | none =>
      have h2 : decide (((l.filter fun x => !isI x).map fun _ => (1 : Int)) = []) = false := decide_eq_false fun e => notInt ha (by simpa using e)
      simp only [bOrd, x_nil, x_cons, x_asg, x_ex, x_ret, x_ite, x_for, x_setI, x_aug, x_raise, e_var, e_lit, e_bin, e_neg, e_cmp, e_chain, e_and, e_or, e_not, e_ite, e_tru, e_tup, e_new, e_call, e_blt, e_mth, e_idx, e_slc, e_rev, p_nil, p_cons, es_nil, es_cons, c_nil, c_cons, n_disp, n_comp, n_comp2, n_listOf, n_listRg, n_sorted, n_dict0, e_dsp, e_setd, e_updt, e_callv, e_tupD, e_isN, es_star, n_listD, n_sortedD, i_keys, i_items, i_vals, x_asgIx, x_pass, x_brk, x_cont, x_raise, i_seq, i_range, i_enum, i_zip, clOf_call', cl_call, clOf_hi2, clOf_lower2, R.bind_ok, R.bind_exc, R.then_ok, R.then_exc, R.nx_ok, RS.seq_next, RS.seq_ret, RS.seq_exc, ofO_some, asg_name, asg_tup2, wipe_nil, wipe_cons, truth_bl, cont_ref, cont_tup, cont_lst, cont_scr, cont_int, cont_bl, cont_non, cont_str, cont_dct, bin_int, in_add, in_sub, cmp_lt, cmp_le, cmp_gt, cmp_ge, cmp_isnBl, cmp_eqI, cmp_neI, cmp_eqB, cmp_neB, at_0, at_1, at_2, fin_ret, fin_next, fin_keep, fin_exc, clean_int, clean_bl, clean_non, seq_tup, seq_lst, List.getElem?_cons_zero, List.getElem?_cons_succ, List.set_cons_zero, List.set_cons_succ, Option.map_some, List.map_cons, List.map_nil, if_true, if_false, Bool.false_eq_true, Bool.not_true, Bool.not_false, Bool.and_true, Bool.true_and, Bool.false_and, decide_true, decide_false, List.replicate, List.append, List.nil_append, List.cons_append, ist_tup, blt_lenT, hne, hl, hc, he, hm, h2, hz]
    | some ns =>
      have h2 : decide (((l.filter fun x => !isI x).map fun _ => (1 : Int)) = []) = true := by rw [allInt ha]; rfl
      have hr : (rgOk 0 n && decide ((n - 0).toNat ≤ 2 ^ 24)) = true := by
        unfold rgOk
        simp only [Bool.and_eq_true, decide_eq_true_eq]
        omega
      have hq : cmpS M .eq (.lst ((sortI ns).map .int)) (.lst (rgL 0 n)) = some (srtIs n ns) := by
        rw [rg0, cmp_eqL]
        rfl
      simp only [bOrd, x_nil, x_cons, x_asg, x_ex, x_ret, x_ite, x_for, x_setI, x_aug, x_raise, e_var, e_lit, e_bin, e_neg, e_cmp, e_chain, e_and, e_or, e_not, e_ite, e_tru, e_tup, e_new, e_call, e_blt, e_mth, e_idx, e_slc, e_rev, p_nil, p_cons, es_nil, es_cons, c_nil, c_cons, n_disp, n_comp, n_comp2, n_listOf, n_listRg, n_sorted, n_dict0, e_dsp, e_setd, e_updt, e_callv, e_tupD, e_isN, es_star, n_listD, n_sortedD, i_keys, i_items, i_vals, x_asgIx, x_pass, x_brk, x_cont, x_raise, i_seq, i_range, i_enum, i_zip, clOf_call', cl_call, clOf_hi2, clOf_lower2, R.bind_ok, R.bind_exc, R.then_ok, R.then_exc, R.nx_ok, RS.seq_next, RS.seq_ret, RS.seq_exc, ofO_some, asg_name, asg_tup2, wipe_nil, wipe_cons, truth_bl, cont_ref, cont_tup, cont_lst, cont_scr, cont_int, cont_bl, cont_non, cont_str, cont_dct, bin_int, in_add, in_sub, cmp_lt, cmp_le, cmp_gt, cmp_ge, cmp_isnBl, cmp_eqI, cmp_neI, cmp_eqB, cmp_neB, at_0, at_1, at_2, fin_ret, fin_next, fin_keep, fin_exc, clean_int, clean_bl, clean_non, seq_tup, seq_lst, List.getElem?_cons_zero, List.getElem?_cons_succ, List.set_cons_zero, List.set_cons_succ, Option.map_some, List.map_cons, List.map_nil, if_true, if_false, Bool.false_eq_true, Bool.not_true, Bool.not_false, Bool.and_true, Bool.true_and, Bool.false_and, decide_true, decide_false, List.replicate, List.append, List.nil_append, List.cons_append, ist_tup, blt_lenT, hne, hl, hc, he, hm, h2, hz, ha, hr, hq]
  · have h2 : decide (((l.length : Nat) : Int) = n) = false := decide_eq_false hne
    simp only [bOrd, x_nil, x_cons, x_asg, x_ex, x_ret, x_ite, x_for, x_setI, x_aug, x_raise, e_var, e_lit, e_bin, e_neg, e_cmp, e_chain, e_and, e_or, e_not, e_ite, e_tru, e_tup, e_new, e_call, e_blt, e_mth, e_idx, e_slc, e_rev, p_nil, p_cons, es_nil, es_cons, c_nil, c_cons, n_disp, n_comp, n_comp2, n_listOf, n_listRg, n_sorted, n_dict0, e_dsp, e_setd, e_updt, e_callv, e_tupD, e_isN, es_star, n_listD, n_sortedD, i_keys, i_items, i_vals, x_asgIx, x_pass, x_brk, x_cont, x_raise, i_seq, i_range, i_enum, i_zip, clOf_call', cl_call, clOf_hi2, clOf_lower2, R.bind_ok, R.bind_exc, R.then_ok, R.then_exc, R.nx_ok, RS.seq_next, RS.seq_ret, RS.seq_exc, ofO_some, asg_name, asg_tup2, wipe_nil, wipe_cons, truth_bl, cont_ref, cont_tup, cont_lst, cont_scr, cont_int, cont_bl, cont_non, cont_str, cont_dct, bin_int, in_add, in_sub, cmp_lt, cmp_le, cmp_gt, cmp_ge, cmp_isnBl, cmp_eqI, cmp_neI, cmp_eqB, cmp_neB, at_0, at_1, at_2, fin_ret, fin_next, fin_keep, fin_exc, clean_int, clean_bl, clean_non, seq_tup, seq_lst, List.getElem?_cons_zero, List.getElem?_cons_succ, List.set_cons_zero, List.set_cons_succ, Option.map_some, List.map_cons, List.map_nil, if_true, if_false, Bool.false_eq_true, Bool.not_true, Bool.not_false, Bool.and_true, Bool.true_and, Bool.false_and, decide_true, decide_false, List.replicate, List.append, List.nil_append, List.cons_append, ist_tup, blt_lenT, h2]
end EW
namespace K82
open PySem PySem.Spec PyProof.Rows L2 MP
def topS (i : Nat) : Stmt := PySem.Challenge.pw_loadwide_k82_errors_of_sums.main.body.getD i (.Pass ⟨0, 0, 0, 0⟩)
abbrev s0 : Stmt := topS 13
def d0 : DefI := { x := "is_amount_within", st := s0, N := ["value", "low", "high"], ps := ["value", "low", "high"], pu := true }
abbrev s1 : Stmt := topS 14
def d1 : DefI := { x := "is_whole_order", st := s1, N := ["many", "value", "at"], ps := ["many", "value"], pu := true }
abbrev s2 : Stmt := topS 15
def d2 : DefI := { x := "ends_sum", st := s2, N := ["tasks", "order", "at", "found", "end"], ps := ["tasks", "order"], pu := true }
abbrev s3 : Stmt := topS 16
def d3 : DefI := { x := "smith_sum", st := s3, N := ["tasks", "found", "at", "task", "other"], ps := ["tasks"], pu := true }
abbrev s4 : Stmt := topS 17
def d4 : DefI := { x := "are_like_tasks", st := s4, N := ["one", "other"], ps := ["one", "other"], pu := true }
abbrev s5 : Stmt := topS 18
def d5 : DefI := { x := "count_least_orders", st := s5, N := ["tasks", "found", "at", "task", "other"], ps := ["tasks"], pu := true }
abbrev s6 : Stmt := topS 19
def d6 : DefI := { x := "longest_first", st := s6, N := ["lengths", "at"], ps := ["lengths"], lam := true, pu := true }
abbrev s7 : Stmt := topS 20
def d7 : DefI := { x := "hands_sum", st := s7, N := ["lengths", "hands", "place", "at"], ps := ["lengths", "hands"], pu := true }
abbrev s8 : Stmt := topS 21
def d8 : DefI := { x := "rows_told", st := s8, N := ["lengths", "hands", "found", "place", "at", "hand", "row"], ps := ["lengths", "hands"], mu := [(53, 12), (53, 13)], pu := true }
abbrev s9 : Stmt := topS 22
def d9 : DefI := { x := "are_rows_of", st := s9, N := ["lengths", "hands", "value", "every", "row", "at"], ps := ["lengths", "hands", "value"], pu := true }
abbrev s10 : Stmt := topS 23
def d10 : DefI := { x := "rows_sum", st := s10, N := ["lengths", "rows", "row", "length"], ps := ["lengths", "rows"], pu := true }
abbrev s11 : Stmt := topS 24
def d11 : DefI := { x := "pair_told", st := s11, N := ["timed", "order", "at", "found", "end", "late"], ps := ["timed", "order"], pu := true }
abbrev s12 : Stmt := topS 25
def d12 : DefI := { x := "kept_pairs", st := s12, N := ["some", "pair", "found", "least"], ps := ["some"], mu := [(72, 20)], dk := [(73, 16)] }
abbrev s13 : Stmt := topS 26
def d13 : DefI := { x := "fronts_behind", st := s13, N := ["timed", "here", "found", "lot", "pairs", "at", "goal", "order"], ps := ["timed", "here"], mu := [(78, 12), (82, 67)], pu := true }
abbrev s14 : Stmt := topS 27
def d14 : DefI := { x := "front_told", st := s14, N := ["timed", "here", "turn", "at"], ps := ["timed"], pu := true }
abbrev s15 : Stmt := topS 28
def d15 : DefI := { x := "is_pair_of_integers", st := s15, N := ["value", "one"], ps := ["value"], pu := true }
abbrev s16 : Stmt := topS 29
def d16 : DefI := { x := "shows_front", st := s16, N := ["timed", "value", "pairs", "pair", "order"], ps := ["timed", "value"], pu := true, dk := [(95, 12), (98, 7), (96, 22), (96, 85)] }
abbrev s17 : Stmt := topS 30
def d17 : DefI := { x := "are_amount_pairs", st := s17, N := ["value", "most", "low", "high", "pair"], ps := ["value", "most", "low", "high"], pu := true }
abbrev s18 : Stmt := topS 31
def d18 : DefI := { x := "require_weighed", st := s18, N := ["tasks"], ps := ["tasks"], pu := true }
abbrev s19 : Stmt := topS 32
def d19 : DefI := { x := "require_timed", st := s19, N := ["timed"], ps := ["timed"], pu := true }
abbrev s20 : Stmt := topS 33
def d20 : DefI := { x := "require_lengths", st := s20, N := ["lengths", "hands", "length"], ps := ["lengths", "hands"], pu := true }
abbrev s21 : Stmt := topS 34
def d21 : DefI := { x := "require_whole_order", st := s21, N := ["tasks", "order"], ps := ["tasks", "order"], pu := true }
abbrev s22 : Stmt := topS 35
def d22 : DefI := { x := "sum_of", st := s22, N := ["tasks", "order"], ps := ["tasks", "order"], pu := true }
abbrev s23 : Stmt := topS 36
def d23 : DefI := { x := "least_sum", st := s23, N := ["tasks"], ps := ["tasks"], pu := true }
abbrev s24 : Stmt := topS 37
def d24 : DefI := { x := "is_least_order", st := s24, N := ["tasks", "value"], ps := ["tasks", "value"], pu := true }
abbrev s25 : Stmt := topS 38
def d25 : DefI := { x := "count_least", st := s25, N := ["tasks"], ps := ["tasks"], pu := true }
abbrev s26 : Stmt := topS 39
def d26 : DefI := { x := "is_rows", st := s26, N := ["lengths", "hands", "value"], ps := ["lengths", "hands", "value"], pu := true }
abbrev s27 : Stmt := topS 40
def d27 : DefI := { x := "sum_of_rows", st := s27, N := ["lengths", "hands", "rows"], ps := ["lengths", "hands", "rows"], pu := true }
abbrev s28 : Stmt := topS 41
def d28 : DefI := { x := "least_rows", st := s28, N := ["lengths", "hands"], ps := ["lengths", "hands"], pu := true }
abbrev s29 : Stmt := topS 42
def d29 : DefI := { x := "least_hands_sum", st := s29, N := ["lengths", "hands"], ps := ["lengths", "hands"], pu := true }
abbrev s30 : Stmt := topS 43
def d30 : DefI := { x := "pair_of", st := s30, N := ["timed", "order"], ps := ["timed", "order"], pu := true }
abbrev s31 : Stmt := topS 44
def d31 : DefI := { x := "front", st := s31, N := ["timed"], ps := ["timed"], pu := true, dk := [(162, 11)] }
abbrev s32 : Stmt := topS 45
def d32 : DefI := { x := "front_paper", st := s32, N := ["timed"], ps := ["timed"], pu := true }
abbrev s33 : Stmt := topS 46
def d33 : DefI := { x := "is_front_paper", st := s33, N := ["timed", "value"], ps := ["timed", "value"], pu := true }
abbrev s34 : Stmt := topS 48
def d34 : DefI := { x := "_law_ewer", st := s34, N := ["script", "spot", "cell", "great", "mixed"], ps := ["script", "spot"], kp := true, mu := [(174, 11)] }
abbrev s35 : Stmt := topS 49
def d35 : DefI := { x := "_law_drip", st := s35, N := ["ewer", "total", "one", "two", "found"], ps := ["ewer", "total"] }
abbrev s36 : Stmt := topS 50
def d36 : DefI := { x := "_law_sip", st := s36, N := ["ewer", "items"], ps := ["ewer", "items"] }
abbrev s37 : Stmt := topS 51
def d37 : DefI := { x := "_law_met", st := s37, N := ["call", "error"], ps := ["call"] }
abbrev s38 : Stmt := topS 52
def d38 : DefI := { x := "_law_right", st := s38, N := ["ewer", "tasks", "lengths", "hands", "order", "rows", "call", "due", "value", "good", "told"], ps := ["ewer"], mu := [(206, 41), (206, 45), (210, 14), (220, 14), (226, 14), (229, 10)], lam := true, gd := true }
abbrev s39 : Stmt := topS 53
def d39 : DefI := { x := "law", st := s39, N := ["script", "spot", "ewer"], ps := ["script"], gd := true }
def m0 : MetI := { a := "call", tag := "told", hs := [⟨[("InvalidJobs", true), ("InvalidOperation", false), ("InvalidNumber", false)], [.txt "raised", .txt "jobs"]⟩, ⟨[("InvalidJobs", false), ("InvalidOperation", true), ("InvalidNumber", false)], [.txt "raised", .txt "operation"]⟩, ⟨[("InvalidJobs", false), ("InvalidOperation", false), ("InvalidNumber", true)], [.txt "raised", .txt "number", .fld "value"]⟩] }
def txt : Txt := { ds := [d0, d1, d2, d3, d4, d5, d6, d7, d8, d9, d10, d11, d12, d13, d14, d15, d16, d17, d18, d19, d20, d21, d22, d23, d24, d25, d26, d27, d28, d29, d30, d31, d32, d33, d34, d35, d36, d37, d38, d39], cons := [("MOST_WEIGHED", .int 9), ("MOST_TIMED", .int 7), ("MOST_SPAN", .int 99), ("MOST_WEIGHT", .int 99), ("MOST_LATE_DUE", .int 999), ("MOST_SUM_HANDS", .int 4), ("sum_of", .fn 22), ("pair_of", .fn 30), ("least_sum", .fn 23), ("count_least", .fn 25), ("front", .fn 31), ("front_paper", .fn 32), ("is_least_order", .fn 24), ("is_front_paper", .fn 33), ("is_rows", .fn 26), ("sum_of_rows", .fn 27), ("least_rows", .fn 28), ("least_hands_sum", .fn 29)], blts := ["len", "abs", "int", "max", "min", "sum", "all", "isinstance", "repr", "tuple", "list", "sorted", "range", "enumerate", "bool", "dict"], exs := ["InvalidJobs", "InvalidOperation"], xvs := [("InvalidNumber", "value")], mets := [("_law_met", m0)] }
end K82
namespace K82
open MP
def b0 : Ss := .cons (.ret (.andE (.blt .isinst (.cons (.var 0) (.cons (.lit (.ty "int")) .nil))) (.andE (.notE (.blt .isinst (.cons (.var 0) (.cons (.lit (.ty "bool")) .nil)))) (.chain .le .le (.var 1) (.var 0) (.var 2))))) .nil
def b1 : Ss := .cons (.ite (.orE (.notE (.tru (.blt .isinst (.cons (.var 1) (.cons (.lit (.ty "tuple")) .nil))))) (.notE (.tru (.blt .all (.cons (.new true (.comp [2] (.call 0 (.cons (.var 2) (.cons (.lit (.int 0)) (.cons (.bin .sub (.var 0) (.lit (.int 1))) .nil)))) (.name 2) (.seq (.var 1)) .nil)) .nil))))) (.cons (.ret (.lit (.bl false))) .nil) .nil) (.cons (.ret (.cmp .eq (.new true (.sorted (.var 1))) (.new true (.listRg (.lit (.int 0)) (.var 0))))) .nil)
def b2_0 : Ss := .cons (.aug 4 .add (.idx (.idx (.var 0) (.var 2)) (.lit (.int 0)))) (.cons (.aug 3 .add (.bin .mul (.var 4) (.idx (.idx (.var 0) (.var 2)) (.lit (.int 1))))) .nil)
def b2 : Ss := .cons (.asg (.tup [3, 4]) (.tup (.cons (.lit (.int 0)) (.cons (.lit (.int 0)) .nil)))) (.cons (.«for» (.name 2) (.seq (.var 1)) b2_0) (.cons (.ret (.var 3)) .nil))
def b3_0 : Ss := .cons (.aug 1 .add (.bin .mul (.idx (.var 3) (.lit (.int 0))) (.idx (.var 3) (.lit (.int 1))))) (.cons (.aug 1 .add (.blt .sum (.cons (.new true (.comp [4] (.blt .min (.cons (.bin .mul (.idx (.var 3) (.lit (.int 1))) (.idx (.var 4) (.lit (.int 0)))) (.cons (.bin .mul (.idx (.var 4) (.lit (.int 1))) (.idx (.var 3) (.lit (.int 0)))) .nil))) (.name 4) (.seq (.slc (.var 0) (.cons (.bin .add (.var 2) (.lit (.int 1))) .nil) .nil)) .nil)) .nil))) .nil)
def b3 : Ss := .cons (.asg (.name 1) (.lit (.int 0))) (.cons (.«for» (.tup [2, 3]) (.enum (.var 0)) b3_0) (.cons (.ret (.var 1)) .nil))
def b4 : Ss := .cons (.ret (.cmp .eq (.bin .mul (.idx (.var 0) (.lit (.int 0))) (.idx (.var 1) (.lit (.int 1)))) (.bin .mul (.idx (.var 1) (.lit (.int 0))) (.idx (.var 0) (.lit (.int 1)))))) .nil
def b5_0 : Ss := .cons (.aug 1 .mul (.bin .add (.lit (.int 1)) (.blt .len (.cons (.new true (.comp [4] (.var 4) (.name 4) (.seq (.slc (.var 0) .nil (.cons (.var 2) .nil))) (.cons (.tru (.call 4 (.cons (.var 3) (.cons (.var 4) .nil)))) .nil))) .nil)))) .nil
def b5 : Ss := .cons (.asg (.name 1) (.lit (.int 1))) (.cons (.«for» (.tup [2, 3]) (.enum (.var 0)) b5_0) (.cons (.ret (.var 1)) .nil))
def b6 : Ss := .cons (.ret (.new true (.sortK (.range (.lit (.int 0)) (.blt .len (.cons (.var 0) .nil))) 1 (.tup (.cons (.neg (.idx (.var 0) (.var 1))) (.cons (.var 1) .nil)))))) .nil
def b7 : Ss := .cons (.ret (.blt .sum (.cons (.new true (.comp [2, 3] (.bin .mul (.idx (.var 0) (.var 3)) (.bin .add (.bin .fdiv (.var 2) (.var 1)) (.lit (.int 1)))) (.tup [2, 3]) (.enum (.call 6 (.cons (.var 0) .nil))) .nil)) .nil))) .nil
def b8_0 : Ss := .cons (.ex (.mth .insert (.idx (.var 2) (.bin .mod (.var 3) (.var 1))) (.cons (.lit (.int 0)) (.cons (.var 4) .nil)))) .nil
def b8 : Ss := .cons (.asg (.name 2) (.new false (.comp [5] (.new false (.disp .nil)) (.name 5) (.range (.lit (.int 0)) (.var 1)) .nil))) (.cons (.«for» (.tup [3, 4]) (.enum (.call 6 (.cons (.var 0) .nil))) b8_0) (.cons (.ret (.blt .tuple (.cons (.new true (.comp [6] (.blt .tuple (.cons (.var 6) .nil)) (.name 6) (.seq (.var 2)) .nil)) .nil))) .nil))
def b9 : Ss := .cons (.ite (.orE (.notE (.tru (.blt .isinst (.cons (.var 2) (.cons (.lit (.ty "tuple")) .nil))))) (.orE (.cmp .ne (.blt .len (.cons (.var 2) .nil)) (.var 1)) (.notE (.tru (.blt .all (.cons (.new true (.comp [4] (.blt .isinst (.cons (.var 4) (.cons (.lit (.ty "tuple")) .nil))) (.name 4) (.seq (.var 2)) .nil)) .nil)))))) (.cons (.ret (.lit (.bl false))) .nil) .nil) (.cons (.asg (.name 3) (.new true (.comp2 [4, 5] [5] (.var 5) (.name 4) (.seq (.var 2)) .nil (.name 5) (.seq (.var 4)) .nil))) (.cons (.ret (.call 1 (.cons (.blt .len (.cons (.var 0) .nil)) (.cons (.blt .tuple (.cons (.var 3) .nil)) .nil)))) .nil))
def b10 : Ss := .cons (.ret (.blt .sum (.cons (.new true (.comp [2] (.call 2 (.cons (.new true (.comp [3] (.tup (.cons (.var 3) (.cons (.lit (.int 1)) .nil))) (.name 3) (.seq (.var 0)) .nil)) (.cons (.var 2) .nil))) (.name 2) (.seq (.var 1)) .nil)) .nil))) .nil
def b11_0 : Ss := .cons (.aug 4 .add (.idx (.idx (.var 0) (.var 2)) (.lit (.int 0)))) (.cons (.aug 3 .add (.var 4)) (.cons (.asg (.name 5) (.ite (.cmp .isx (.var 5) (.lit .non)) (.bin .sub (.var 4) (.idx (.idx (.var 0) (.var 2)) (.lit (.int 1)))) (.blt .max (.cons (.var 5) (.cons (.bin .sub (.var 4) (.idx (.idx (.var 0) (.var 2)) (.lit (.int 1)))) .nil))))) .nil))
def b11 : Ss := .cons (.asg (.tup [3, 4, 5]) (.tup (.cons (.lit (.int 0)) (.cons (.lit (.int 0)) (.cons (.lit .non) .nil))))) (.cons (.«for» (.name 2) (.seq (.var 1)) b11_0) (.cons (.ret (.tup (.cons (.var 3) (.cons (.var 5) .nil)))) .nil))
def b12_0 : Ss := .cons (.ite (.orE (.cmp .isx (.var 3) (.lit .non)) (.cmp .lt (.idx (.var 1) (.lit (.int 1))) (.var 3))) (.cons (.asgIx (.var 2) (.var 1) 3 (.tup (.cons (.idx (.var 0) (.var 1)) (.cons (.idx (.var 1) (.lit (.int 1))) .nil)))) .nil) .nil) .nil
def b12 : Ss := .cons (.asg (.tup [2, 3]) (.tup (.cons (.new false .dict0) (.cons (.lit .non) .nil)))) (.cons (.«for» (.name 1) (.seq (.new true (.sortedD (.var 0)))) b12_0) (.cons (.ret (.var 2)) .nil))
def b13_0 : Ss := .cons (.ite (.cmp .nin (.var 5) (.var 3)) (.cons (.asg (.name 6) (.setd (.var 2) (.blt .tuple (.cons (.new true (.sorted (.new true (.disp (.star (.var 3) (.cons (.var 5) .nil)))))) .nil)) (.new false .dict0))) (.cons (.ex (.updt (.var 6) (.dcomp [7] (.call 11 (.cons (.var 0) (.cons (.tup (.star (.var 7) (.cons (.var 5) .nil))) .nil))) (.tup (.star (.var 7) (.cons (.var 5) .nil))) (.name 7) (.vals (.var 4)) .nil))) .nil)) .nil) .nil
def b13_1 : Ss := .cons (.«for» (.name 5) (.range (.lit (.int 0)) (.blt .len (.cons (.var 0) .nil))) b13_0) .nil
def b13 : Ss := .cons (.asg (.name 2) (.new false .dict0)) (.cons (.«for» (.tup [3, 4]) (.items (.var 1)) b13_1) (.cons (.ret (.dcomp [3, 4] (.var 3) (.call 12 (.cons (.var 4) .nil)) (.tup [3, 4]) (.items (.var 2)) .nil)) .nil))
def b14_0 : Ss := .cons (.asg (.name 1) (.call 13 (.cons (.var 0) (.cons (.var 1) .nil)))) .nil
def b14 : Ss := .cons (.asg (.name 1) (.dsp (.cons (.tup .nil) (.cons (.dsp (.cons (.tup (.cons (.lit (.int 0)) (.cons (.lit .non) .nil))) (.cons (.tup .nil) .nil))) .nil)))) (.cons (.«for» (.name 2) (.seq (.var 0)) b14_0) (.cons (.ret (.idx (.var 1) (.blt .tuple (.cons (.new true (.comp [3] (.var 3) (.name 3) (.range (.lit (.int 0)) (.blt .len (.cons (.var 0) .nil))) .nil)) .nil)))) .nil))
def b15 : Ss := .cons (.ite (.orE (.notE (.tru (.blt .isinst (.cons (.var 0) (.cons (.lit (.ty "tuple")) .nil))))) (.cmp .ne (.blt .len (.cons (.var 0) .nil)) (.lit (.int 2)))) (.cons (.ret (.lit (.bl false))) .nil) .nil) (.cons (.ret (.blt .all (.cons (.new true (.comp [1] (.andE (.blt .isinst (.cons (.var 1) (.cons (.lit (.ty "int")) .nil))) (.notE (.blt .isinst (.cons (.var 1) (.cons (.lit (.ty "bool")) .nil))))) (.name 1) (.seq (.var 0)) .nil)) .nil))) .nil)
def b16_0 : Ss := .cons (.ite (.orE (.notE (.tru (.call 1 (.cons (.blt .len (.cons (.var 0) .nil)) (.cons (.var 4) .nil))))) (.cmp .ne (.call 11 (.cons (.var 0) (.cons (.var 4) .nil))) (.var 3))) (.cons (.ret (.lit (.bl false))) .nil) .nil) .nil
def b16 : Ss := .cons (.asg (.name 2) (.new true (.listD (.call 14 (.cons (.var 0) .nil))))) (.cons (.ite (.orE (.notE (.tru (.blt .isinst (.cons (.var 1) (.cons (.lit (.ty "dict")) .nil))))) (.notE (.tru (.blt .all (.cons (.new true (.comp [3] (.call 15 (.cons (.var 3) .nil)) (.name 3) (.keys (.var 1)) .nil)) .nil))))) (.cons (.ret (.lit (.bl false))) .nil) .nil) (.cons (.ite (.cmp .ne (.new true (.sortedD (.var 1))) (.var 2)) (.cons (.ret (.lit (.bl false))) .nil) .nil) (.cons (.«for» (.tup [3, 4]) (.items (.var 1)) b16_0) (.cons (.ret (.lit (.bl true))) .nil))))
def b17_0 : Ss := .cons (.ite (.orE (.notE (.tru (.blt .isinst (.cons (.var 4) (.cons (.lit (.ty "tuple")) .nil))))) (.cmp .ne (.blt .len (.cons (.var 4) .nil)) (.lit (.int 2)))) (.cons (.ret (.lit (.bl false))) .nil) .nil) (.cons (.ite (.orE (.notE (.tru (.call 0 (.cons (.idx (.var 4) (.lit (.int 0))) (.cons (.lit (.int 1)) (.cons (.lit (.int 99)) .nil)))))) (.notE (.tru (.call 0 (.cons (.idx (.var 4) (.lit (.int 1))) (.cons (.var 2) (.cons (.var 3) .nil))))))) (.cons (.ret (.lit (.bl false))) .nil) .nil) .nil)
def b17 : Ss := .cons (.ite (.orE (.notE (.tru (.blt .isinst (.cons (.var 0) (.cons (.lit (.ty "tuple")) .nil))))) (.notE (.chain .le .le (.lit (.int 1)) (.blt .len (.cons (.var 0) .nil)) (.var 1)))) (.cons (.ret (.lit (.bl false))) .nil) .nil) (.cons (.«for» (.name 4) (.seq (.var 0)) b17_0) (.cons (.ret (.lit (.bl true))) .nil))
def b18 : Ss := .cons (.ite (.notE (.tru (.call 17 (.cons (.var 0) (.cons (.lit (.int 9)) (.cons (.lit (.int 0)) (.cons (.lit (.int 99)) .nil))))))) (.cons (.raise "InvalidJobs" .nil) .nil) .nil) .nil
def b19 : Ss := .cons (.ite (.notE (.tru (.call 17 (.cons (.var 0) (.cons (.lit (.int 7)) (.cons (.lit (.int 0)) (.cons (.lit (.int 999)) .nil))))))) (.cons (.raise "InvalidJobs" .nil) .nil) .nil) .nil
def b20 : Ss := .cons (.ite (.orE (.notE (.tru (.blt .isinst (.cons (.var 0) (.cons (.lit (.ty "tuple")) .nil))))) (.notE (.chain .le .le (.lit (.int 1)) (.blt .len (.cons (.var 0) .nil)) (.lit (.int 9))))) (.cons (.raise "InvalidJobs" .nil) .nil) .nil) (.cons (.ite (.notE (.tru (.blt .all (.cons (.new true (.comp [2] (.call 0 (.cons (.var 2) (.cons (.lit (.int 1)) (.cons (.lit (.int 99)) .nil)))) (.name 2) (.seq (.var 0)) .nil)) .nil)))) (.cons (.raise "InvalidJobs" .nil) .nil) .nil) (.cons (.ite (.notE (.tru (.call 0 (.cons (.var 1) (.cons (.lit (.int 1)) (.cons (.lit (.int 4)) .nil)))))) (.cons (.raisev "InvalidNumber" "value" (.var 1)) .nil) .nil) .nil))
def b21 : Ss := .cons (.ite (.notE (.tru (.call 1 (.cons (.blt .len (.cons (.var 0) .nil)) (.cons (.var 1) .nil))))) (.cons (.raise "InvalidOperation" .nil) .nil) .nil) .nil
def b22 : Ss := .cons (.ex (.call 18 (.cons (.var 0) .nil))) (.cons (.ex (.call 21 (.cons (.var 0) (.cons (.var 1) .nil)))) (.cons (.ret (.call 2 (.cons (.var 0) (.cons (.var 1) .nil)))) .nil))
def b23 : Ss := .cons (.ex (.call 18 (.cons (.var 0) .nil))) (.cons (.ret (.call 3 (.cons (.var 0) .nil))) .nil)
def b24 : Ss := .cons (.ex (.call 18 (.cons (.var 0) .nil))) (.cons (.ret (.andE (.call 1 (.cons (.blt .len (.cons (.var 0) .nil)) (.cons (.var 1) .nil))) (.cmp .eq (.call 2 (.cons (.var 0) (.cons (.var 1) .nil))) (.call 3 (.cons (.var 0) .nil))))) .nil)
def b25 : Ss := .cons (.ex (.call 18 (.cons (.var 0) .nil))) (.cons (.ret (.call 5 (.cons (.var 0) .nil))) .nil)
def b26 : Ss := .cons (.ex (.call 20 (.cons (.var 0) (.cons (.var 1) .nil)))) (.cons (.ret (.call 9 (.cons (.var 0) (.cons (.var 1) (.cons (.var 2) .nil))))) .nil)
def b27 : Ss := .cons (.ex (.call 20 (.cons (.var 0) (.cons (.var 1) .nil)))) (.cons (.ite (.notE (.tru (.call 9 (.cons (.var 0) (.cons (.var 1) (.cons (.var 2) .nil)))))) (.cons (.raise "InvalidOperation" .nil) .nil) .nil) (.cons (.ret (.call 10 (.cons (.var 0) (.cons (.var 2) .nil)))) .nil))
def b28 : Ss := .cons (.ex (.call 20 (.cons (.var 0) (.cons (.var 1) .nil)))) (.cons (.ret (.call 8 (.cons (.var 0) (.cons (.var 1) .nil)))) .nil)
def b29 : Ss := .cons (.ex (.call 20 (.cons (.var 0) (.cons (.var 1) .nil)))) (.cons (.ret (.call 7 (.cons (.var 0) (.cons (.var 1) .nil)))) .nil)
def b30 : Ss := .cons (.ex (.call 19 (.cons (.var 0) .nil))) (.cons (.ex (.call 21 (.cons (.var 0) (.cons (.var 1) .nil)))) (.cons (.ret (.call 11 (.cons (.var 0) (.cons (.var 1) .nil)))) .nil))
def b31 : Ss := .cons (.ex (.call 19 (.cons (.var 0) .nil))) (.cons (.ret (.tupD (.call 14 (.cons (.var 0) .nil)))) .nil)
def b32 : Ss := .cons (.ex (.call 19 (.cons (.var 0) .nil))) (.cons (.ret (.call 14 (.cons (.var 0) .nil))) .nil)
def b33 : Ss := .cons (.ex (.call 19 (.cons (.var 0) .nil))) (.cons (.ret (.call 16 (.cons (.var 0) (.cons (.var 1) .nil)))) .nil)
def b34 : Ss := .cons (.asg (.name 2) (.ite (.cmp .lt (.var 1) (.blt .len (.cons (.var 0) .nil))) (.blt .int (.cons (.idx (.var 0) (.var 1)) .nil)) (.bin .add (.bin .mul (.lit (.int 827)) (.var 1)) (.lit (.int 61))))) (.cons (.asg (.name 3) (.bin .mod (.blt .int (.cons (.blt .abs (.cons (.var 2) .nil)) .nil)) (.bin .pow (.bin .pow (.lit (.int 10)) (.lit (.int 47))) (.lit (.int 7))))) (.cons (.asg (.name 4) (.bin .add (.bin .add (.bin .add (.bin .mul (.bin .mod (.blt .int (.cons (.var 3) .nil)) (.lit (.int 2305843009213693907))) (.lit (.int 113))) (.bin .mul (.lit (.int 1123)) (.var 1))) (.bin .mul (.lit (.int 53)) (.blt .int (.cons (.cmp .lt (.var 2) (.lit (.int 0))) .nil)))) (.lit (.int 29)))) (.cons (.ret (.new false (.disp (.cons (.blt .max (.cons (.lit (.int 0)) (.cons (.bin .sub (.var 3) (.bin .pow (.lit (.int 10)) (.lit (.int 16)))) .nil))) (.cons (.var 4) (.cons (.lit (.int 0)) .nil)))))) .nil)))
def b35 : Ss := .cons (.ite (.cmp .gt (.idx (.var 0) (.lit (.int 0))) (.lit (.int 0))) (.cons (.asg (.name 4) (.bin .mod (.blt .int (.cons (.idx (.var 0) (.lit (.int 0))) .nil)) (.var 1))) (.cons (.setI (.var 0) (.lit (.int 0)) (.bin .fdiv (.idx (.var 0) (.lit (.int 0))) (.var 1))) (.cons (.ret (.var 4)) .nil))) .nil) (.cons (.setI (.var 0) (.lit (.int 2)) (.bin .add (.idx (.var 0) (.lit (.int 2))) (.lit (.int 1)))) (.cons (.asg (.name 2) (.bin .mod (.blt .int (.cons (.bin .add (.idx (.var 0) (.lit (.int 1))) (.bin .mul (.lit (.int 32452843)) (.idx (.var 0) (.lit (.int 2))))) .nil)) (.lit (.int 2305843009213693951)))) (.cons (.asg (.name 3) (.bin .add (.bin .mul (.bin .mod (.blt .int (.cons (.bin .add (.bin .mul (.var 2) (.var 2)) (.bin .mul (.lit (.int 317)) (.idx (.var 0) (.lit (.int 2))))) .nil)) (.lit (.int 2305843009213693921))) (.lit (.int 15485867))) (.var 2))) (.cons (.ret (.bin .mod (.blt .int (.cons (.bin .fdiv (.var 3) (.lit (.int 65647))) .nil)) (.var 1))) .nil))))
def b36 : Ss := .cons (.ret (.idx (.var 1) (.call 35 (.cons (.var 0) (.cons (.blt .len (.cons (.var 1) .nil)) .nil))))) .nil
def b37 : Ss := .cons .bad .nil
def b38_0 : Ss := .cons (.ex (.mth .append (.var 10) (.cons (.met "told" [⟨ [("InvalidJobs" , true), ("InvalidOperation" , false), ("InvalidNumber" , false)], [.txt "raised", .txt "jobs"] ⟩, ⟨ [("InvalidJobs" , false), ("InvalidOperation" , true), ("InvalidNumber" , false)], [.txt "raised", .txt "operation"] ⟩, ⟨ [("InvalidJobs" , false), ("InvalidOperation" , false), ("InvalidNumber" , true)], [.txt "raised", .txt "number", .fld "value"] ⟩] (.callv (.var 6) (.cons (.var 1) (.cons (.var 4) .nil)))) .nil))) (.cons (.ex (.mth .append (.var 10) (.cons (.met "told" [⟨ [("InvalidJobs" , true), ("InvalidOperation" , false), ("InvalidNumber" , false)], [.txt "raised", .txt "jobs"] ⟩, ⟨ [("InvalidJobs" , false), ("InvalidOperation" , true), ("InvalidNumber" , false)], [.txt "raised", .txt "operation"] ⟩, ⟨ [("InvalidJobs" , false), ("InvalidOperation" , false), ("InvalidNumber" , true)], [.txt "raised", .txt "number", .fld "value"] ⟩] (.callv (.var 6) (.cons (.var 9) (.cons (.var 4) .nil)))) .nil))) (.cons (.asg (.name 7) (.new false (.cat (.var 7) (.new true (.disp (.cons (.tup (.cons (.lit (.str "raised")) (.cons (.lit (.str "jobs")) .nil))) (.cons (.tup (.cons (.lit (.str "raised")) (.cons (.lit (.str "operation")) .nil))) .nil))))))) .nil))
def b38_1 : Ss := .cons (.ex (.mth .append (.var 10) (.cons (.met "told" [⟨ [("InvalidJobs" , true), ("InvalidOperation" , false), ("InvalidNumber" , false)], [.txt "raised", .txt "jobs"] ⟩, ⟨ [("InvalidJobs" , false), ("InvalidOperation" , true), ("InvalidNumber" , false)], [.txt "raised", .txt "operation"] ⟩, ⟨ [("InvalidJobs" , false), ("InvalidOperation" , false), ("InvalidNumber" , true)], [.txt "raised", .txt "number", .fld "value"] ⟩] (.callv (.var 6) (.cons (.var 1) .nil))) .nil))) (.cons (.ex (.mth .append (.var 7) (.cons (.tup (.cons (.lit (.str "raised")) (.cons (.lit (.str "jobs")) .nil))) .nil))) .nil)
def b38_2 : Ss := .cons (.ex (.mth .append (.var 10) (.cons (.met "told" [⟨ [("InvalidJobs" , true), ("InvalidOperation" , false), ("InvalidNumber" , false)], [.txt "raised", .txt "jobs"] ⟩, ⟨ [("InvalidJobs" , false), ("InvalidOperation" , true), ("InvalidNumber" , false)], [.txt "raised", .txt "operation"] ⟩, ⟨ [("InvalidJobs" , false), ("InvalidOperation" , false), ("InvalidNumber" , true)], [.txt "raised", .txt "number", .fld "value"] ⟩] (.callv (.var 6) (.cons (.var 1) (.cons (.lit .non) .nil)))) .nil))) (.cons (.ex (.mth .append (.var 7) (.cons (.tup (.cons (.lit (.str "raised")) (.cons (.lit (.str "jobs")) .nil))) .nil))) .nil)
def b38_3 : Ss := .cons (.ex (.mth .append (.var 10) (.cons (.met "told" [⟨ [("InvalidJobs" , true), ("InvalidOperation" , false), ("InvalidNumber" , false)], [.txt "raised", .txt "jobs"] ⟩, ⟨ [("InvalidJobs" , false), ("InvalidOperation" , true), ("InvalidNumber" , false)], [.txt "raised", .txt "operation"] ⟩, ⟨ [("InvalidJobs" , false), ("InvalidOperation" , false), ("InvalidNumber" , true)], [.txt "raised", .txt "number", .fld "value"] ⟩] (.callv (.var 6) (.cons (.var 2) (.cons (.var 3) (.cons (.var 5) .nil))))) .nil))) (.cons (.ex (.mth .append (.var 10) (.cons (.met "told" [⟨ [("InvalidJobs" , true), ("InvalidOperation" , false), ("InvalidNumber" , false)], [.txt "raised", .txt "jobs"] ⟩, ⟨ [("InvalidJobs" , false), ("InvalidOperation" , true), ("InvalidNumber" , false)], [.txt "raised", .txt "operation"] ⟩, ⟨ [("InvalidJobs" , false), ("InvalidOperation" , false), ("InvalidNumber" , true)], [.txt "raised", .txt "number", .fld "value"] ⟩] (.callv (.var 6) (.cons (.tup (.cons (.lit (.int 1)) (.cons (.lit (.int 2)) .nil))) (.cons (.var 3) (.cons (.var 5) .nil))))) .nil))) (.cons (.asg (.name 7) (.new false (.cat (.var 7) (.new true (.disp (.cons (.tup (.cons (.lit (.str "raised")) (.cons (.lit (.str "jobs")) .nil))) (.cons (.tup (.cons (.lit (.str "raised")) (.cons (.lit (.str "number")) (.cons (.var 3) .nil)))) .nil))))))) .nil))
def b38_4 : Ss := .cons (.ex (.mth .append (.var 10) (.cons (.met "told" [⟨ [("InvalidJobs" , true), ("InvalidOperation" , false), ("InvalidNumber" , false)], [.txt "raised", .txt "jobs"] ⟩, ⟨ [("InvalidJobs" , false), ("InvalidOperation" , true), ("InvalidNumber" , false)], [.txt "raised", .txt "operation"] ⟩, ⟨ [("InvalidJobs" , false), ("InvalidOperation" , false), ("InvalidNumber" , true)], [.txt "raised", .txt "number", .fld "value"] ⟩] (.callv (.var 6) (.cons (.var 2) (.cons (.var 3) .nil)))) .nil))) (.cons (.ex (.mth .append (.var 10) (.cons (.met "told" [⟨ [("InvalidJobs" , true), ("InvalidOperation" , false), ("InvalidNumber" , false)], [.txt "raised", .txt "jobs"] ⟩, ⟨ [("InvalidJobs" , false), ("InvalidOperation" , true), ("InvalidNumber" , false)], [.txt "raised", .txt "operation"] ⟩, ⟨ [("InvalidJobs" , false), ("InvalidOperation" , false), ("InvalidNumber" , true)], [.txt "raised", .txt "number", .fld "value"] ⟩] (.callv (.var 6) (.cons (.tup (.cons (.lit (.int 1)) (.cons (.lit (.int 2)) .nil))) (.cons (.var 3) .nil)))) .nil))) (.cons (.asg (.name 7) (.new false (.cat (.var 7) (.new true (.disp (.cons (.tup (.cons (.lit (.str "raised")) (.cons (.lit (.str "jobs")) .nil))) (.cons (.tup (.cons (.lit (.str "raised")) (.cons (.lit (.str "number")) (.cons (.var 3) .nil)))) .nil))))))) .nil))
def b38_5 : Ss := .cons (.ite (.cmp .ne (.met "told" [⟨ [("InvalidJobs" , true), ("InvalidOperation" , false), ("InvalidNumber" , false)], [.txt "raised", .txt "jobs"] ⟩, ⟨ [("InvalidJobs" , false), ("InvalidOperation" , true), ("InvalidNumber" , false)], [.txt "raised", .txt "operation"] ⟩, ⟨ [("InvalidJobs" , false), ("InvalidOperation" , false), ("InvalidNumber" , true)], [.txt "raised", .txt "number", .fld "value"] ⟩] (.call 33 (.cons (.var 9) (.cons (.var 8) .nil)))) (.tup (.cons (.lit (.str "told")) (.cons (.lit (.bl false)) .nil)))) (.cons (.ret (.lit (.bl false))) .nil) .nil) .nil
def b38 : Ss := .cons (.asg (.name 1) (.new true (.disp (.cons (.lit .non) (.cons (.tup .nil) (.cons (.lit (.int 0)) (.cons (.new true (.disp (.cons (.tup (.cons (.lit (.int 1)) (.cons (.lit (.int 2)) .nil))) .nil))) (.cons (.tup (.cons (.tup (.cons (.lit (.int 0)) (.cons (.lit (.int 2)) .nil))) .nil)) (.cons (.tup (.cons (.tup (.cons (.lit (.int 100)) (.cons (.lit (.int 2)) .nil))) .nil)) (.cons (.tup (.cons (.tup (.cons (.lit (.int 1)) (.cons (.lit (.int 1000)) .nil))) .nil)) (.cons (.tup (.cons (.tup (.cons (.lit (.int 1)) (.cons (.neg (.lit (.int 1))) .nil))) .nil)) (.cons (.tup (.cons (.tup (.cons (.lit (.int 1)) .nil)) .nil)) (.cons (.tup (.cons (.tup (.cons (.lit (.bl true)) (.cons (.lit (.int 2)) .nil))) .nil)) .nil))))))))))))) (.cons (.asg (.name 1) (.bin .add (.var 1) (.new true (.disp (.cons (.tup (.cons (.tup (.cons (.lit (.int 1)) (.cons (.lit .non) .nil))) .nil)) (.cons (.bin .mul (.tup (.cons (.tup (.cons (.lit (.int 1)) (.cons (.lit (.int 2)) .nil))) .nil)) (.lit (.int 10))) (.cons (.lit (.str "ab")) (.cons (.new true .dict0) (.cons (.tup (.cons (.lit (.int 1)) (.cons (.lit (.int 2)) .nil))) .nil))))))))) (.cons (.asg (.name 1) (.call 36 (.cons (.var 0) (.cons (.var 1) .nil)))) (.cons (.asg (.name 2) (.call 36 (.cons (.var 0) (.cons (.new true (.disp (.cons (.lit .non) (.cons (.tup .nil) (.cons (.lit (.int 0)) (.cons (.new true (.disp (.cons (.lit (.int 1)) .nil))) (.cons (.tup (.cons (.lit (.int 0)) .nil)) (.cons (.tup (.cons (.lit (.int 100)) .nil)) (.cons (.tup (.cons (.lit (.bl true)) .nil)) (.cons (.tup (.cons (.lit .non) .nil)) (.cons (.tup (.cons (.lit (.str "1")) .nil)) (.cons (.bin .mul (.tup (.cons (.lit (.int 1)) .nil)) (.lit (.int 10))) (.cons (.new true .dict0) (.cons (.lit (.int 5)) .nil)))))))))))))) .nil)))) (.cons (.asg (.name 3) (.call 36 (.cons (.var 0) (.cons (.new true (.disp (.cons (.lit .non) (.cons (.lit (.int 0)) (.cons (.lit (.int 5)) (.cons (.neg (.lit (.int 1))) (.cons (.lit (.bl true)) (.cons (.lit (.str "2")) (.cons (.tup (.cons (.lit (.int 2)) .nil)) (.cons (.new true (.disp .nil)) (.cons (.bin .pow (.lit (.int 10)) (.lit (.int 30))) .nil))))))))))) .nil)))) (.cons (.asg (.name 4) (.call 36 (.cons (.var 0) (.cons (.new true (.disp (.cons (.lit .non) (.cons (.tup .nil) (.cons (.tup (.cons (.lit (.int 0)) .nil)) (.cons (.tup (.cons (.lit (.int 0)) (.cons (.lit (.int 0)) .nil))) (.cons (.tup (.cons (.lit (.int 0)) (.cons (.lit (.int 2)) .nil))) (.cons (.new true (.disp (.cons (.lit (.int 0)) (.cons (.lit (.int 1)) .nil)))) (.cons (.tup (.cons (.lit (.int 0)) (.cons (.lit (.int 1)) (.cons (.lit (.int 2)) .nil)))) (.cons (.tup (.cons (.lit (.bl true)) (.cons (.lit (.int 0)) .nil))) (.cons (.tup (.cons (.lit (.int 0)) (.cons (.lit .non) .nil))) (.cons (.lit (.str "01")) (.cons (.new true .dict0) (.cons (.lit (.int 0)) .nil)))))))))))))) .nil)))) (.cons (.asg (.name 5) (.new true (.disp (.cons (.lit .non) (.cons (.tup .nil) (.cons (.tup (.cons (.tup (.cons (.lit (.int 0)) (.cons (.lit (.int 1)) .nil))) .nil)) (.cons (.tup (.cons (.tup (.cons (.lit (.int 0)) .nil)) (.cons (.tup (.cons (.lit (.int 0)) .nil)) .nil))) (.cons (.tup (.cons (.tup (.cons (.lit (.int 0)) .nil)) (.cons (.tup (.cons (.lit (.int 2)) .nil)) .nil))) (.cons (.new true (.disp (.cons (.tup (.cons (.lit (.int 0)) .nil)) (.cons (.tup (.cons (.lit (.int 1)) .nil)) .nil)))) (.cons (.tup (.cons (.new true (.disp (.cons (.lit (.int 0)) .nil))) (.cons (.tup (.cons (.lit (.int 1)) .nil)) .nil))) (.cons (.tup (.cons (.tup (.cons (.lit (.bl true)) .nil)) (.cons (.tup (.cons (.lit (.int 0)) .nil)) .nil))) (.cons (.tup (.cons (.tup (.cons (.lit (.int 0)) .nil)) (.cons (.tup .nil) .nil))) (.cons (.new true .dict0) .nil))))))))))))) (.cons (.asg (.name 5) (.call 36 (.cons (.var 0) (.cons (.var 5) .nil)))) (.cons (.asg (.tup [9, 10, 7]) (.tup (.cons (.tup (.cons (.tup (.cons (.lit (.int 1)) (.cons (.lit (.int 2)) .nil))) (.cons (.tup (.cons (.lit (.int 3)) (.cons (.lit (.int 4)) .nil))) .nil))) (.cons (.new false (.disp .nil)) (.cons (.new false (.disp .nil)) .nil))))) (.cons (.«for» (.name 6) (.seq (.tup (.cons (.lit (.fn 22)) (.cons (.lit (.fn 30)) .nil)))) b38_0) (.cons (.«for» (.name 6) (.seq (.tup (.cons (.lit (.fn 23)) (.cons (.lit (.fn 25)) (.cons (.lit (.fn 31)) (.cons (.lit (.fn 32)) .nil)))))) b38_1) (.cons (.«for» (.name 6) (.seq (.tup (.cons (.lit (.fn 24)) (.cons (.lit (.fn 33)) .nil)))) b38_2) (.cons (.«for» (.name 6) (.seq (.tup (.cons (.lit (.fn 26)) (.cons (.lit (.fn 27)) .nil)))) b38_3) (.cons (.ex (.mth .append (.var 10) (.cons (.met "told" [⟨ [("InvalidJobs" , true), ("InvalidOperation" , false), ("InvalidNumber" , false)], [.txt "raised", .txt "jobs"] ⟩, ⟨ [("InvalidJobs" , false), ("InvalidOperation" , true), ("InvalidNumber" , false)], [.txt "raised", .txt "operation"] ⟩, ⟨ [("InvalidJobs" , false), ("InvalidOperation" , false), ("InvalidNumber" , true)], [.txt "raised", .txt "number", .fld "value"] ⟩] (.call 27 (.cons (.tup (.cons (.lit (.int 1)) (.cons (.lit (.int 2)) .nil))) (.cons (.lit (.int 2)) (.cons (.var 5) .nil))))) .nil))) (.cons (.ex (.mth .append (.var 7) (.cons (.tup (.cons (.lit (.str "raised")) (.cons (.lit (.str "operation")) .nil))) .nil))) (.cons (.«for» (.name 6) (.seq (.tup (.cons (.lit (.fn 28)) (.cons (.lit (.fn 29)) .nil)))) b38_4) (.cons (.ex (.mth .append (.var 10) (.cons (.met "told" [⟨ [("InvalidJobs" , true), ("InvalidOperation" , false), ("InvalidNumber" , false)], [.txt "raised", .txt "jobs"] ⟩, ⟨ [("InvalidJobs" , false), ("InvalidOperation" , true), ("InvalidNumber" , false)], [.txt "raised", .txt "operation"] ⟩, ⟨ [("InvalidJobs" , false), ("InvalidOperation" , false), ("InvalidNumber" , true)], [.txt "raised", .txt "number", .fld "value"] ⟩] (.call 31 (.cons (.bin .mul (.tup (.cons (.tup (.cons (.lit (.int 1)) (.cons (.lit (.int 2)) .nil))) .nil)) (.lit (.int 8))) .nil))) .nil))) (.cons (.ex (.mth .append (.var 10) (.cons (.met "told" [⟨ [("InvalidJobs" , true), ("InvalidOperation" , false), ("InvalidNumber" , false)], [.txt "raised", .txt "jobs"] ⟩, ⟨ [("InvalidJobs" , false), ("InvalidOperation" , true), ("InvalidNumber" , false)], [.txt "raised", .txt "operation"] ⟩, ⟨ [("InvalidJobs" , false), ("InvalidOperation" , false), ("InvalidNumber" , true)], [.txt "raised", .txt "number", .fld "value"] ⟩] (.call 23 (.cons (.tup (.cons (.tup (.cons (.lit (.int 1)) (.cons (.lit (.int 100)) .nil))) .nil)) .nil))) .nil))) (.cons (.asg (.name 7) (.new false (.cat (.var 7) (.new true (.disp (.cons (.tup (.cons (.lit (.str "raised")) (.cons (.lit (.str "jobs")) .nil))) (.cons (.tup (.cons (.lit (.str "raised")) (.cons (.lit (.str "jobs")) .nil))) .nil))))))) (.cons (.ite (.orE (.cmp .ne (.shw (.var 10)) (.shw (.var 7))) (.orE (.cmp .isn (.call 26 (.cons (.tup (.cons (.lit (.int 1)) (.cons (.lit (.int 2)) .nil))) (.cons (.lit (.int 2)) (.cons (.var 5) .nil)))) (.lit (.bl false))) (.cmp .isn (.call 24 (.cons (.var 9) (.cons (.var 4) .nil))) (.lit (.bl false))))) (.cons (.ret (.lit (.bl false))) .nil) .nil) (.cons (.«for» (.name 8) (.seq (.tup (.cons (.var 1) (.cons (.var 4) (.cons (.var 5) (.cons (.var 3) (.cons (.new true (.disp (.cons (.new true (.disp .nil)) .nil))) (.cons (.dsp (.cons (.tup (.cons (.lit (.int 1)) (.cons (.lit (.int 2)) .nil))) (.cons (.new true .dict0) .nil))) (.cons (.dsp (.cons (.lit .non) (.cons (.tup (.cons (.lit (.int 0)) (.cons (.lit (.int 1)) .nil))) .nil))) (.cons (.dsp (.cons (.tup (.cons (.lit (.int 1)) (.cons (.lit .non) .nil))) (.cons (.tup (.cons (.lit (.int 0)) (.cons (.lit (.int 1)) .nil))) .nil))) (.cons (.dsp (.cons (.lit (.str "ab")) (.cons (.lit (.int 0)) .nil))) .nil))))))))))) b38_5) (.cons (.ret (.lit (.bl true))) .nil)))))))))))))))))))))
def b39_0 : Ss := .cons (.asg (.name 2) (.call 34 (.cons (.var 0) (.cons (.var 1) .nil)))) (.cons (.ite (.orE (.notE (.tru (.call 38 (.cons (.var 2) .nil)))) (.notE (.tru (.call 38 (.cons (.var 2) .nil))))) (.cons (.ret (.lit (.bl false))) .nil) .nil) .nil)
def b39 : Ss := .cons (.«for» (.name 1) (.range (.lit (.int 0)) (.blt .max (.cons (.lit (.int 1)) (.cons (.blt .min (.cons (.lit (.int 4)) (.cons (.blt .len (.cons (.var 0) .nil)) .nil))) .nil)))) b39_0) (.cons (.ret (.andE (.cmp .eq (.call 31 (.cons (.bin .mul (.tup (.cons (.tup (.cons (.lit (.int 99)) (.cons (.lit (.int 999)) .nil))) .nil)) (.lit (.int 7))) .nil)) (.tup (.cons (.tup (.cons (.lit (.int 2772)) (.cons (.neg (.lit (.int 306))) .nil))) .nil))) (.cmp .eq (.call 23 (.cons (.bin .mul (.tup (.cons (.tup (.cons (.lit (.int 99)) (.cons (.lit (.int 99)) .nil))) .nil)) (.lit (.int 9))) .nil)) (.lit (.int 441045))))) .nil)
abbrev tab : List FD := [⟨false, 3, 3, b0, true⟩, ⟨false, 2, 3, b1, true⟩, ⟨false, 2, 5, b2, true⟩, ⟨false, 1, 5, b3, true⟩, ⟨false, 2, 2, b4, true⟩, ⟨false, 1, 5, b5, true⟩, ⟨false, 1, 2, b6, true⟩, ⟨false, 2, 4, b7, true⟩, ⟨false, 2, 7, b8, true⟩, ⟨false, 3, 6, b9, true⟩, ⟨false, 2, 4, b10, true⟩, ⟨false, 2, 6, b11, true⟩, ⟨false, 1, 4, b12, false⟩, ⟨false, 2, 8, b13, true⟩, ⟨false, 1, 4, b14, true⟩, ⟨false, 1, 2, b15, true⟩, ⟨false, 2, 5, b16, true⟩, ⟨false, 4, 5, b17, true⟩, ⟨false, 1, 1, b18, true⟩, ⟨false, 1, 1, b19, true⟩, ⟨false, 2, 3, b20, true⟩, ⟨false, 2, 2, b21, true⟩, ⟨false, 2, 2, b22, true⟩, ⟨false, 1, 1, b23, true⟩, ⟨false, 2, 2, b24, true⟩, ⟨false, 1, 1, b25, true⟩, ⟨false, 3, 3, b26, true⟩, ⟨false, 3, 3, b27, true⟩, ⟨false, 2, 2, b28, true⟩, ⟨false, 2, 2, b29, true⟩, ⟨false, 2, 2, b30, true⟩, ⟨false, 1, 1, b31, true⟩, ⟨false, 1, 1, b32, true⟩, ⟨false, 2, 2, b33, true⟩, ⟨true, 2, 5, b34, false⟩, ⟨false, 2, 5, b35, false⟩, ⟨false, 2, 2, b36, false⟩, ⟨false, 1, 2, b37, false⟩, ⟨false, 1, 11, b38, false⟩, ⟨false, 1, 3, b39, false⟩]
set_option maxHeartbeats 0 in
theorem tab_is : tabOf txt = tab := by kernel_rfl
/-- a table like the text's: nothing below may look into it -/
class Tb (T : List FD) : Prop where
  at_ : ∀ i : Nat, T[i]? = tab[i]?
theorem T_at {T : List FD} [h : Tb T] (i : Nat) : T[i]? = tab[i]? := h.at_ i
theorem tb_txt : Tb (tabOf txt) := ⟨fun i => by rw [tab_is]⟩
end K82
/-! k82: what the calls answer, reckoned. -/
namespace K82
open MP
abbrev ii (a b : Int) : D := .tup [.int a, .int b]
def taskL1 : List D := [.non, .tup [], .int 0, .lst [ii 1 2], .tup [ii 0 2], .tup [ii 100 2], .tup [ii 1 1000], .tup [ii 1 (-1)], .tup [.tup [.int 1]], .tup [.tup [.bl true, .int 2]]]
def taskL2 : List D := [.tup [.tup [.int 1, .non]], .tup (List.replicate (10 : Int).toNat [ii 1 2]).flatten, .str "ab", .dct 1 [], ii 1 2]
def taskL : List D := taskL1 ++ taskL2
def lenL : List D := [.non, .tup [], .int 0, .lst [.int 1], .tup [.int 0], .tup [.int 100], .tup [.bl true], .tup [.non], .tup [.str "1"], .tup (List.replicate (10 : Int).toNat [.int 1]).flatten, .dct 1 [], .int 5]
def handL : List D := [.non, .int 0, .int 5, .int (-1), .bl true, .str "2", .tup [.int 2], .lst [], .int (10 ^ 30)]
def ordL : List D := [.non, .tup [], .tup [.int 0], ii 0 0, ii 0 2, .lst [.int 0, .int 1], .tup [.int 0, .int 1, .int 2], .tup [.bl true, .int 0], .tup [.int 0, .non], .str "01", .dct 1 [], .int 0]
def rowL : List D := [.non, .tup [], .tup [ii 0 1], .tup [.tup [.int 0], .tup [.int 0]], .tup [.tup [.int 0], .tup [.int 2]], .lst [.tup [.int 0], .tup [.int 1]], .tup [.lst [.int 0], .tup [.int 1]], .tup [.tup [.bl true], .tup [.int 0]], .tup [.tup [.int 0], .tup []], .dct 1 []]
def good : D := .tup [ii 1 2, ii 3 4]
def restL : List D := [.lst [.lst []], .dct 0 [(ii 1 2, .dct 1 [])], .dct 0 [(.non, ii 0 1)], .dct 0 [(.tup [.int 1, .non], ii 0 1)], .dct 0 [(.str "ab", .int 0)]]
abbrev cJ : PySem.Str := "InvalidJobs"
abbrev cO : PySem.Str := "InvalidOperation"
abbrev cN : PySem.Str := "InvalidNumber"
abbrev vN (h : D) : D := .tup [.str "value", h]
def isX (r : R D) (c : PySem.Str) (e : D) : Bool := match r with | .exc x d _ => decide (x = c) && bq d e | _ => false
def isK (r : R D) (d : D) : Bool := match r with | .ok x _ => bq x d | _ => false
theorem isX_is {r : R D} {c : PySem.Str} {e : D} (h : isX r c e = true) : ∃ M, r = .exc c e M := by
  cases r with
  | exc x d M =>
    simp only [isX, Bool.and_eq_true, decide_eq_true_eq] at h
    rw [h.1, bq_eq h.2]
    exact ⟨M, rfl⟩
  | _ => cases h
theorem isK_is {r : R D} {d : D} (h : isK r d = true) : ∃ M, r = .ok d M := by
  cases r with
  | ok x M => rw [bq_eq (show bq x d = true from h)]; exact ⟨M, rfl⟩
  | _ => cases h
theorem F1 : (taskL.all fun t => ordL.all fun o => isX (runF tab 0 10 22 [t, o] []) cJ .non && isX (runF tab 0 10 30 [t, o] []) cJ .non) = true := by decide +kernel
theorem F2 : (ordL.all fun o => isX (runF tab 0 10 22 [good, o] []) cO .non && (isX (runF tab 0 10 30 [good, o] []) cO .non && isK (runF tab 0 12 24 [good, o] []) (.bl false))) = true := by decide +kernel
theorem F3 : (taskL.all fun t => isX (runF tab 0 10 23 [t] []) cJ .non && (isX (runF tab 0 10 25 [t] []) cJ .non && (isX (runF tab 0 10 31 [t] []) cJ .non && (isX (runF tab 0 10 32 [t] []) cJ .non && (isX (runF tab 0 10 24 [t, .non] []) cJ .non && isX (runF tab 0 10 33 [t, .non] []) cJ .non))))) = true := by decide +kernel
theorem F5 : (lenL.all fun l => handL.all fun h => rowL.all fun r => isX (runF tab 0 10 26 [l, h, r] []) cJ .non && isX (runF tab 0 10 27 [l, h, r] []) cJ .non) = true := by decide +kernel
theorem F6 : (handL.all fun h => rowL.all fun r => isX (runF tab 0 10 26 [ii 1 2, h, r] []) cN (vN h) && isX (runF tab 0 10 27 [ii 1 2, h, r] []) cN (vN h)) = true := by decide +kernel
theorem F7 : (rowL.all fun r => isX (runF tab 0 10 27 [ii 1 2, .int 2, r] []) cO .non && isK (runF tab 0 12 26 [ii 1 2, .int 2, r] []) (.bl false)) = true := by decide +kernel
theorem F8 : (handL.all fun h => (lenL.all fun l => isX (runF tab 0 10 28 [l, h] []) cJ .non && isX (runF tab 0 10 29 [l, h] []) cJ .non) && (isX (runF tab 0 10 28 [ii 1 2, h] []) cN (vN h) && isX (runF tab 0 10 29 [ii 1 2, h] []) cN (vN h))) = true := by decide +kernel
theorem F9 : (isX (runF tab 0 10 31 [.tup (List.replicate (8 : Int).toNat [ii 1 2]).flatten] []) cJ .non && isX (runF tab 0 10 23 [.tup [ii 1 100]] []) cJ .non) = true := by decide +kernel
theorem F11 : ((taskL ++ (ordL ++ (rowL ++ (handL ++ restL)))).all fun v => isK (runF tab 0 10 33 [good, v] []) (.bl false)) = true := by decide +kernel
theorem F12 : isK (runF tab 0 13 31 [.tup (List.replicate (7 : Int).toNat [ii 99 999]).flatten] []) (.tup [ii 2772 (-306)]) = true := by decide +kernel
theorem F13 : isK (runF tab 0 13 23 [.tup (List.replicate (9 : Int).toNat [ii 99 99]).flatten] []) (.int 441045) = true := by decide +kernel
end K82
/-! k82: the walk. -/
namespace K82
open MP EW
theorem t_at {i : Nat} {fd : FD} (h : tab[i]? = some fd) : tab[i]? = some fd := h
/-! the call depth never is unfolded -/
theorem ranX {k n : Nat} {vs : List D} {c : PySem.Str} {e : D} {fd : FD} (h : tab[n]? = some fd) (hp : fd.pu = true) (q : isX (runF tab 0 (k + 1) n vs []) c e = true) (M : List D) : runF tab 0 (k + 1) n vs M = .exc c e M := by
  obtain ⟨M0, q⟩ := isX_is q
  exact run_exc h hp q M
theorem ranK {k n : Nat} {vs : List D} {d : D} {fd : FD} (h : tab[n]? = some fd) (hp : fd.pu = true) (q : isK (runF tab 0 (k + 1) n vs []) d = true) (M : List D) : runF tab 0 (k + 1) n vs M = .ok d M := by
  obtain ⟨M0, q⟩ := isK_is q
  exact run_ok h hp q M
/-- one of the items, whatever they are -/
theorem sipD {i j : Nat} (hT : tab[i]? = some ⟨false, 2, 2, bSip j, false⟩) (hD : tab[j]? = some ⟨false, 2, 5, bDrip, false⟩) (k : Nat) {M : List D} {e : Nat} {a b c : Int} (hM : M[e]? = some (ewr a b c)) {l : List D} (h0 : 0 < l.length) (h1 : l.length < 1000) (hc : bels 0 l = true) :
    ∃ v a' c', v ∈ l ∧ runF tab 0 (k + 2) i [.ref e, .lst l] M = .ok v (M.set e (ewr a' b c')) := by
  obtain ⟨r, a', c', h2, h3, q⟩ := drip hD k hM (total := ((l.length : Nat) : Int)) (by omega) (by omega)
  obtain ⟨m, rfl⟩ : ∃ m : Nat, r = (m : Int) := ⟨r.toNat, by omega⟩
  have hr : m < l.length := by omega
  refine ⟨l[m], a', c', List.getElem_mem hr, ?_⟩
  rw [run_eq hT rfl]
  have e1 : bltS M .len [.lst l] = some (.int ((l.length : Nat) : Int)) := rfl
  have e2 : idxS (M.set e (ewr a' b c')) (.lst l) (.int (m : Int)) = some l[m] := L2.atI_nat (List.getElem?_eq_getElem hr)
  have e3 : clean M l[m] (M.set e (ewr a' b c')) = .ok l[m] (M.set e (ewr a' b c')) := clean_same (by simp) (bel_mono (Nat.zero_le _) _ (bels_iff.mp hc _ (List.getElem_mem hr)))
  generalize l[m] = x at *
  generalize ((l.length : Nat) : Int) = n at *
  generalize (m : Int) = mi at *
  simp only [bSip, x_nil, x_cons, x_asg, x_ex, x_ret, x_ite, x_for, x_setI, x_aug, x_raise, e_var, e_lit, e_bin, e_neg, e_cmp, e_chain, e_and, e_or, e_not, e_ite, e_tru, e_tup, e_new, e_call, e_blt, e_mth, e_idx, e_slc, e_rev, p_nil, p_cons, es_nil, es_cons, c_nil, c_cons, n_disp, n_comp, n_comp2, n_listOf, n_listRg, n_sorted, n_dict0, e_dsp, e_setd, e_updt, e_callv, e_tupD, e_isN, es_star, n_listD, n_sortedD, i_keys, i_items, i_vals, x_asgIx, x_pass, x_brk, x_cont, x_raise, i_seq, i_range, i_enum, i_zip, clOf_call', cl_call, clOf_hi2, clOf_lower2, R.bind_ok, R.bind_exc, R.then_ok, R.then_exc, R.nx_ok, RS.seq_next, RS.seq_ret, RS.seq_exc, ofO_some, asg_name, asg_tup2, wipe_nil, wipe_cons, truth_bl, cont_ref, cont_tup, cont_lst, cont_scr, cont_int, cont_bl, cont_non, cont_str, cont_dct, bin_int, in_add, in_sub, cmp_lt, cmp_le, cmp_gt, cmp_ge, cmp_isnBl, cmp_eqI, cmp_neI, cmp_eqB, cmp_neB, at_0, at_1, at_2, fin_ret, fin_next, fin_keep, fin_exc, clean_int, clean_bl, clean_non, seq_tup, seq_lst, List.getElem?_cons_zero, List.getElem?_cons_succ, List.set_cons_zero, List.set_cons_succ, Option.map_some, List.map_cons, List.map_nil, if_true, if_false, Bool.false_eq_true, Bool.not_true, Bool.not_false, Bool.and_true, Bool.true_and, Bool.false_and, decide_true, decide_false, List.replicate, List.append, List.nil_append, List.cons_append, e1, q, e2, e3]
def HS : List HdR := [⟨[("InvalidJobs", true), ("InvalidOperation", false), ("InvalidNumber", false)], [.txt "raised", .txt "jobs"]⟩, ⟨[("InvalidJobs", false), ("InvalidOperation", true), ("InvalidNumber", false)], [.txt "raised", .txt "operation"]⟩, ⟨[("InvalidJobs", false), ("InvalidOperation", false), ("InvalidNumber", true)], [.txt "raised", .txt "number", .fld "value"]⟩]
abbrev dJ : D := .tup [.str "raised", .str "jobs"]
abbrev dO : D := .tup [.str "raised", .str "operation"]
abbrev dN (h : D) : D := .tup [.str "raised", .str "number", h]
theorem metJ : (metH HS cJ).bind (rtDs .non) = some [.str "raised", .str "jobs"] := by rfl
theorem metO : (metH HS cO).bind (rtDs .non) = some [.str "raised", .str "operation"] := by rfl
theorem metN (h : D) : (metH HS cN).bind (rtDs (vN h)) = some [.str "raised", .str "number", h] := by
  have e1 : metH HS cN = some [.txt "raised", .txt "number", .fld "value"] := by rfl
  rw [e1]
  simp [rtDs, rtD]
abbrev C : Cl := clOf tab 0 12
theorem C_low : C.lower = ⟨runF tab 0 10, 0, fun _ _ _ => .bad, false⟩ := rfl
/-- what a clause tells -/
theorem met_at {b : E} {L : Lo} {M : List D} {c : PySem.Str} {e : D} {ds : List D} (hb : evE C.lower b L M = .exc c e M) (hm : (metH HS c).bind (rtDs e) = some ds) : evE C (.met "told" HS b) L M = .ok (.tup ds) M := by
  rw [e_met, show C.hi = true from rfl, if_pos rfl, hb]
  show (match (metH HS c).bind (rtDs e) with | some ds => R.ok (D.tup ds) M | none => .bad) = _
  rw [hm]
theorem met_told {b : E} {L : Lo} {M : List D} {d : D} (hb : evE C.lower b L M = .ok d M) : evE C (.met "told" HS b) L M = .ok (.tup [.str "told", d]) M := by
  rw [e_met, show C.hi = true from rfl, if_pos rfl, hb]
  rfl
/-! the state behind the draws: M1 what was there, told at n, then old dues, then the due of now -/
def Mem (M1 : List D) (tl X dl : List D) : List D := M1 ++ (.lst tl :: (X ++ [.lst dl]))
abbrev Lst (e : Nat) (t l h o r : D) (c : Option D) (u : Nat) (v : Option D) (n : Nat) : Lo := [some (.ref e), some t, some l, some h, some o, some r, c, some (.ref u), v, some good, some (.ref n)]
section
variable {M1 tl X dl : List D} {e : Nat} {t l h o r : D} {c v : Option D} {d : D} {ds : List D}
theorem mem_told : (Mem M1 tl X dl)[M1.length]? = some (.lst tl) := by
  unfold Mem
  rw [List.getElem?_append_right (Nat.le_refl _), Nat.sub_self]
  rfl
theorem mem_due : (Mem M1 tl X dl)[M1.length + 1 + X.length]? = some (.lst dl) := by
  unfold Mem
  rw [List.getElem?_append_right (by omega), show M1.length + 1 + X.length - M1.length = X.length + 1 by omega, List.getElem?_cons_succ, List.getElem?_append_right (Nat.le_refl _), Nat.sub_self]
  rfl
theorem mem_set1 : (Mem M1 tl X dl).set M1.length (.lst ds) = Mem M1 ds X dl := by
  unfold Mem
  rw [List.set_append_right _ _ (Nat.le_refl _), Nat.sub_self]
  rfl
theorem mem_set2 : (Mem M1 tl X dl).set (M1.length + 1 + X.length) (.lst ds) = Mem M1 tl X ds := by
  unfold Mem
  rw [List.set_append_right _ _ (by omega), show M1.length + 1 + X.length - M1.length = X.length + 1 by omega, List.set_cons_succ, List.set_append_right _ _ (Nat.le_refl _), Nat.sub_self]
  rfl
theorem mem_len : (Mem M1 tl X dl).length = M1.length + 1 + X.length + 1 := by
  unfold Mem
  simp
  omega
theorem mem_app : Mem M1 tl X dl ++ [.lst ds] = Mem M1 tl (X ++ [.lst dl]) ds := by
  unfold Mem
  simp
theorem lim_of {n : Nat} (h : n < 200) : n < lim := Nat.lt_of_lt_of_le h (by decide)
/-- .append -/
theorem app_at {cl : Cl} {L : Lo} {M : List D} {i n : Nat} {b : E} {l : List D} {d : D} (hL : L[i]? = some (some (.ref n))) (hM : M[n]? = some (.lst l)) (hl : l.length < 200) (hb : evE cl b L M = .ok d M) : exS cl (.ex (.mth .append (.var i) (.cons b .nil))) L M = .next L (M.set n (.lst (l ++ [d]))) := by
  have k : mthK M (.ref n) = true := by
    show (match M[n]? with | some (D.lst _) => true | _ => false) = true
    rw [hM]
  have m : mthS M .append (.ref n) [d] = some (.non, M.set n (.lst (l ++ [d]))) := by
    show (match M[n]? with | some (.lst l) => if l.length < lim then some (D.non, M.set n (.lst (l ++ [d]))) else none | _ => none) = _
    rw [hM]
    show (if l.length < lim then some (D.non, M.set n (.lst (l ++ [d]))) else none) = _
    rw [if_pos (lim_of hl)]
  simp only [x_ex, e_mth, e_var, hL, R.bind_ok, k, if_true, es_cons, es_nil, hb, m, R.then_ok]
theorem told_at (hl : tl.length < 200) {b : E} (hb : evE C b (Lst e t l h o r c (M1.length + 1 + X.length) v M1.length) (Mem M1 tl X dl) = .ok d (Mem M1 tl X dl)) :
    exS C (.ex (.mth .append (.var 10) (.cons b .nil))) (Lst e t l h o r c (M1.length + 1 + X.length) v M1.length) (Mem M1 tl X dl) = .next (Lst e t l h o r c (M1.length + 1 + X.length) v M1.length) (Mem M1 (tl ++ [d]) X dl) := by
  rw [app_at (n := M1.length) rfl mem_told hl hb, mem_set1]
theorem due_at (hl : dl.length < 200) {b : E} (hb : evE C b (Lst e t l h o r c (M1.length + 1 + X.length) v M1.length) (Mem M1 tl X dl) = .ok d (Mem M1 tl X dl)) :
    exS C (.ex (.mth .append (.var 7) (.cons b .nil))) (Lst e t l h o r c (M1.length + 1 + X.length) v M1.length) (Mem M1 tl X dl) = .next (Lst e t l h o r c (M1.length + 1 + X.length) v M1.length) (Mem M1 tl X (dl ++ [d])) := by
  rw [app_at (n := M1.length + 1 + X.length) rfl mem_due hl hb, mem_set2]
/-- due = due + [..] -/
theorem cat_at (hl : dl.length < 200) (hd : ds.length < 200) {b : E} (hb : evE C b (Lst e t l h o r c (M1.length + 1 + X.length) v M1.length) (Mem M1 tl X dl) = .ok (.lst ds) (Mem M1 tl X dl)) :
    exS C (.asg (.name 7) (.new false (.cat (.var 7) b))) (Lst e t l h o r c (M1.length + 1 + X.length) v M1.length) (Mem M1 tl X dl) = .next (Lst e t l h o r c (M1.length + 1 + (X ++ [D.lst dl]).length) v M1.length) (Mem M1 tl (X ++ [D.lst dl]) (dl ++ ds)) := by
  have c1 : cont (Mem M1 tl X dl) (.ref (M1.length + 1 + X.length)) = some (.lst dl) := mem_due
  have c2 : cont (Mem M1 tl X dl) (.lst ds) = some (.lst ds) := rfl
  have hz : dl.length + ds.length ≤ lim := by
    have : 400 ≤ lim := by decide
    omega
  have e7 : (Lst e t l h o r c (M1.length + 1 + X.length) v M1.length)[7]? = some (some (.ref (M1.length + 1 + X.length))) := rfl
  rw [x_asg, e_new, n_cat, e_var, e7]
  show ((((evE C b _ _).bind fun y M2 => match cont M2 (.ref (M1.length + 1 + X.length)), cont M2 y with | some (.lst l), some (.lst r) => if l.length + r.length ≤ lim then R.ok (D.lst (l ++ r)) M2 else .bad | _, _ => .bad).bind _).then _ _) = _
  rw [hb, R.bind_ok, c1, c2]
  show (((if dl.length + ds.length ≤ lim then R.ok (D.lst (dl ++ ds)) (Mem M1 tl X dl) else .bad).bind _).then _ _) = _
  rw [if_pos hz, R.bind_ok]
  simp only [Bool.false_eq_true, if_false]
  rw [R.then_ok, mem_len, mem_app]
  show RS.next _ _ = _
  simp [List.length_append, asgs]
  omega
end
end K82
/-! k82: one case. -/
namespace K82
open MP EW
section
variable {M1 tl X dl : List D} {e : Nat} {t l h o r : D} {c v : Option D}
abbrev LL (M1 X : List D) (e : Nat) (t l h o r : D) (c v : Option D) : Lo := Lst e t l h o r c (M1.length + 1 + X.length) v M1.length
theorem low_callv {n : Nat} {es : Es} {L : Lo} {M : List D} {vs : List D} (h6 : L[6]? = some (some (.fn n))) (he : evEs C.lower es L M = .ok vs M) : evE C.lower (.callv (.var 6) es) L M = runF tab 0 10 n vs M := by
  rw [e_callv, e_var, h6]
  show (evEs C.lower es L M).bind _ = _
  rw [he]
  rfl
theorem low_call {n : Nat} {es : Es} {L : Lo} {M : List D} {vs : List D} (he : evEs C.lower es L M = .ok vs M) : evE C.lower (.call n es) L M = runF tab 0 10 n vs M := by
  rw [e_call, he]
  rfl
/-- the two of the first loop -/
theorem turn0 {n : Nat} (h1 : ∀ M, runF tab 0 10 n [t, o] M = .exc cJ .non M) (h2 : ∀ M, runF tab 0 10 n [good, o] M = .exc cO .non M) (hl1 : tl.length < 150) (hl2 : dl.length < 150) :
    exSs C b38_0 (LL M1 X e t l h o r (some (.fn n)) v) (Mem M1 tl X dl) = .next (LL M1 (X ++ [.lst dl]) e t l h o r (some (.fn n)) v) (Mem M1 (tl ++ [dJ] ++ [dO]) (X ++ [.lst dl]) (dl ++ [dJ, dO])) := by
  unfold b38_0
  refine (seq_next (told_at (by omega) (met_at ((low_callv (n := n) rfl rfl).trans (h1 _)) metJ))).trans ?_
  refine (seq_next (told_at (by simp; omega) (met_at ((low_callv (n := n) rfl rfl).trans (h2 _)) metO))).trans ?_
  refine (seq_next (cat_at (ds := [dJ, dO]) (by omega) (by decide) rfl)).trans ?_
  rfl
theorem turn1 {n : Nat} (h1 : ∀ M, runF tab 0 10 n [t] M = .exc cJ .non M) (hl1 : tl.length < 150) (hl2 : dl.length < 150) :
    exSs C b38_1 (LL M1 X e t l h o r (some (.fn n)) v) (Mem M1 tl X dl) = .next (LL M1 X e t l h o r (some (.fn n)) v) (Mem M1 (tl ++ [dJ]) X (dl ++ [dJ])) := by
  unfold b38_1
  refine (seq_next (told_at (by omega) (met_at ((low_callv (n := n) rfl rfl).trans (h1 _)) metJ))).trans ?_
  refine (seq_next (due_at (by omega) rfl)).trans ?_
  rfl
theorem turn2 {n : Nat} (h1 : ∀ M, runF tab 0 10 n [t, .non] M = .exc cJ .non M) (hl1 : tl.length < 150) (hl2 : dl.length < 150) :
    exSs C b38_2 (LL M1 X e t l h o r (some (.fn n)) v) (Mem M1 tl X dl) = .next (LL M1 X e t l h o r (some (.fn n)) v) (Mem M1 (tl ++ [dJ]) X (dl ++ [dJ])) := by
  unfold b38_2
  refine (seq_next (told_at (by omega) (met_at ((low_callv (n := n) rfl rfl).trans (h1 _)) metJ))).trans ?_
  refine (seq_next (due_at (by omega) rfl)).trans ?_
  rfl
theorem turn3 {n : Nat} (h1 : ∀ M, runF tab 0 10 n [l, h, r] M = .exc cJ .non M) (h2 : ∀ M, runF tab 0 10 n [ii 1 2, h, r] M = .exc cN (vN h) M) (hl1 : tl.length < 150) (hl2 : dl.length < 150) :
    exSs C b38_3 (LL M1 X e t l h o r (some (.fn n)) v) (Mem M1 tl X dl) = .next (LL M1 (X ++ [.lst dl]) e t l h o r (some (.fn n)) v) (Mem M1 (tl ++ [dJ] ++ [dN h]) (X ++ [.lst dl]) (dl ++ [dJ, dN h])) := by
  unfold b38_3
  refine (seq_next (told_at (by omega) (met_at ((low_callv (n := n) rfl rfl).trans (h1 _)) metJ))).trans ?_
  refine (seq_next (told_at (by simp; omega) (met_at ((low_callv (n := n) rfl rfl).trans (h2 _)) (metN h)))).trans ?_
  refine (seq_next (cat_at (ds := [dJ, dN h]) (by omega) (by simp) rfl)).trans ?_
  rfl
theorem turn4 {n : Nat} (h1 : ∀ M, runF tab 0 10 n [l, h] M = .exc cJ .non M) (h2 : ∀ M, runF tab 0 10 n [ii 1 2, h] M = .exc cN (vN h) M) (hl1 : tl.length < 150) (hl2 : dl.length < 150) :
    exSs C b38_4 (LL M1 X e t l h o r (some (.fn n)) v) (Mem M1 tl X dl) = .next (LL M1 (X ++ [.lst dl]) e t l h o r (some (.fn n)) v) (Mem M1 (tl ++ [dJ] ++ [dN h]) (X ++ [.lst dl]) (dl ++ [dJ, dN h])) := by
  unfold b38_4
  refine (seq_next (told_at (by omega) (met_at ((low_callv (n := n) rfl rfl).trans (h1 _)) metJ))).trans ?_
  refine (seq_next (told_at (by simp; omega) (met_at ((low_callv (n := n) rfl rfl).trans (h2 _)) (metN h)))).trans ?_
  refine (seq_next (cat_at (ds := [dJ, dN h]) (by omega) (by simp) rfl)).trans ?_
  rfl
theorem ne_tup (M : List D) : cmpS M .ne (.tup [.str "told", .bl false]) (.tup [.str "told", .bl false]) = some false := by
  have e : ∀ M, eqS M (.tup [.str "told", .bl false]) (.tup [.str "told", .bl false]) = eqS [] (.tup [.str "told", .bl false]) (.tup [.str "told", .bl false]) := fun M => by
    have e1 : ∀ M, eqS M (.tup [.str "told", .bl false]) (.tup [.str "told", .bl false]) = eqD M (.tup [.str "told", .bl false]) (.tup [.str "told", .bl false]) := fun _ => rfl
    have e2 : ∀ M, frz M 0 6 (.tup [.str "told", .bl false]) = some (.tup [.str "told", .bl false]) := fun M => frz_bel (by rfl)
    rw [e1, e1]
    unfold eqD
    rw [e2, e2]
  show (eqS M _ _).map not = _
  rw [e, show eqS [] (.tup [.str "told", .bl false]) (.tup [.str "told", .bl false]) = some true by decide +kernel]
  rfl
theorem turn5 {M : List D} {x : D} (h1 : ∀ M, runF tab 0 10 33 [good, x] M = .ok (.bl false) M) :
    exSs C b38_5 (LL M1 X e t l h o r c (some x)) M = .next (LL M1 X e t l h o r c (some x)) M := by
  unfold b38_5
  have hm : evE C (.met "told" HS (.call 33 (.cons (.var 9) (.cons (.var 8) .nil)))) (LL M1 X e t l h o r c (some x)) M = .ok (.tup [.str "told", .bl false]) M := met_told ((low_call (vs := [good, x]) rfl).trans (h1 M))
  refine (seq_next (L1 := LL M1 X e t l h o r c (some x)) (M1 := M) ?_).trans rfl
  rw [x_ite, e_cmp]
  show (((evE C (.met "told" HS (.call 33 (.cons (.var 9) (.cons (.var 8) .nil)))) (LL M1 X e t l h o r c (some x)) M).bind _).then _ _) = _
  rw [hm]
  show ((ofO ((cmpS M .ne (.tup [.str "told", .bl false]) (.tup [.str "told", .bl false])).map D.bl) M).then _ _) = _
  rw [ne_tup]
  rfl
/-! the loops -/
theorem for_one {w : List D} {b : Ss} {i : Nat} {x : D} {L L2 : Lo} {M M2 : List D} {R : RS} (h2 : exSs C b (L.set i (some x)) M = .next L2 M2) (h : forL ⟨w, none⟩ (.name i) (exSs C b) [] L2 M2 = R ∨ True) (rest : List D) : forL ⟨w, none⟩ (.name i) (exSs C b) (x :: rest) L M = forL ⟨w, none⟩ (.name i) (exSs C b) rest L2 M2 :=
  forL_cons (by rfl) rfl h2
end
/-- repr of a list at a place -/
theorem shw_ref {M : List D} {n : Nat} {l : List D} (hM : M[n]? = some (.lst l)) (hl : bels 0 l = true) : shwS M (.ref n) = shwS [] (.lst l) := by
  have e1 : frz M 0 6 (.ref n) = some (.lst l) := by
    show gf M 0 6 n = _
    show (if n < 0 then some (D.ref n) else (M[n]?).bind (sub (gf M 0 5))) = _
    rw [if_neg (Nat.not_lt_zero n), hM]
    show sub (gf M 0 5) (.lst l) = _
    exact sub_bel (b := 0) (fun k hk => absurd hk (Nat.not_lt_zero k)) (.lst l) (by simpa [bel] using hl)
  have e2 : frz [] 0 6 (.lst l) = some (.lst l) := frz_bel (by simpa [bel] using hl)
  show (match (frz M 0 6 (.ref n)).bind toPD with | some d => _ | none => none) = (match (frz [] 0 6 (.lst l)).bind toPD with | some d => _ | none => none)
  rw [e1, e2]
theorem ne_str (M : List D) (x : PySem.Str) : cmpS M .ne (.str x) (.str x) = some false := by
  show some (!decide (x = x)) = _
  rw [decide_eq_true rfl]
  rfl
end K82
/-! k82: what is shown. -/
namespace K82
open MP
def told (h : D) : List D := [dJ, dO, dJ, dO, dJ, dJ, dJ, dJ, dJ, dJ, dJ, dN h, dJ, dN h, dO, dJ, dN h, dJ, dN h, dJ, dJ]
def shwOk (h : D) : Bool := bels 0 (told h) && (match shwS [] (.lst (told h)) with | some (.str _) => true | _ => false)
theorem shwOk_is {h : D} (q : shwOk h = true) : bels 0 (told h) = true ∧ ∃ s, shwS [] (.lst (told h)) = some (.str s) := by
  unfold shwOk at q
  rw [Bool.and_eq_true] at q
  refine ⟨q.1, ?_⟩
  have q2 := q.2
  split at q2
  · rename_i s hs
    exact ⟨s, hs⟩
  · cases q2
def hnd (i : Nat) : List D := (handL.drop i).take 1
theorem sh0 : (hnd 0).all shwOk = true := by decide +kernel
theorem sh1 : (hnd 1).all shwOk = true := by decide +kernel
theorem sh2 : (hnd 2).all shwOk = true := by decide +kernel
theorem sh3 : (hnd 3).all shwOk = true := by decide +kernel
theorem sh4 : (hnd 4).all shwOk = true := by decide +kernel
theorem sh5 : (hnd 5).all shwOk = true := by decide +kernel
theorem sh6 : (hnd 6).all shwOk = true := by decide +kernel
theorem sh7 : (hnd 7).all shwOk = true := by decide +kernel
theorem sh8 : (hnd 8).all shwOk = true := by decide +kernel
theorem hnd_all : handL = hnd 0 ++ hnd 1 ++ hnd 2 ++ hnd 3 ++ hnd 4 ++ hnd 5 ++ hnd 6 ++ hnd 7 ++ hnd 8 := by rfl
theorem shw_all : (handL.all shwOk) = true := by
  rw [hnd_all]
  simp only [List.all_append, sh0, sh1, sh2, sh3, sh4, sh5, sh6, sh7, sh8, Bool.and_self]
end K82
/-! k82: the law. -/
namespace K82
open MP EW
theorem all_at {α : Type} {l : List α} {p : α → Bool} (h : l.all p = true) {a : α} (ha : a ∈ l) : p a = true := List.all_eq_true.mp h a ha
/-- the facts of one case -/
structure Fs (t l h o r : D) : Prop where
  a22 : ∀ M, runF tab 0 10 22 [t, o] M = .exc cJ .non M
  b22 : ∀ M, runF tab 0 10 22 [good, o] M = .exc cO .non M
  a30 : ∀ M, runF tab 0 10 30 [t, o] M = .exc cJ .non M
  b30 : ∀ M, runF tab 0 10 30 [good, o] M = .exc cO .non M
  a23 : ∀ M, runF tab 0 10 23 [t] M = .exc cJ .non M
  a25 : ∀ M, runF tab 0 10 25 [t] M = .exc cJ .non M
  a31 : ∀ M, runF tab 0 10 31 [t] M = .exc cJ .non M
  a32 : ∀ M, runF tab 0 10 32 [t] M = .exc cJ .non M
  a24 : ∀ M, runF tab 0 10 24 [t, .non] M = .exc cJ .non M
  a33 : ∀ M, runF tab 0 10 33 [t, .non] M = .exc cJ .non M
  a26 : ∀ M, runF tab 0 10 26 [l, h, r] M = .exc cJ .non M
  a27 : ∀ M, runF tab 0 10 27 [l, h, r] M = .exc cJ .non M
  b26 : ∀ M, runF tab 0 10 26 [ii 1 2, h, r] M = .exc cN (vN h) M
  b27 : ∀ M, runF tab 0 10 27 [ii 1 2, h, r] M = .exc cN (vN h) M
  c27 : ∀ M, runF tab 0 10 27 [ii 1 2, .int 2, r] M = .exc cO .non M
  a28 : ∀ M, runF tab 0 10 28 [l, h] M = .exc cJ .non M
  a29 : ∀ M, runF tab 0 10 29 [l, h] M = .exc cJ .non M
  b28 : ∀ M, runF tab 0 10 28 [ii 1 2, h] M = .exc cN (vN h) M
  b29 : ∀ M, runF tab 0 10 29 [ii 1 2, h] M = .exc cN (vN h) M
  d31 : ∀ M, runF tab 0 10 31 [.tup (List.replicate (8 : Int).toNat [ii 1 2]).flatten] M = .exc cJ .non M
  d23 : ∀ M, runF tab 0 10 23 [.tup [ii 1 100]] M = .exc cJ .non M
  e26 : ∀ M, runF tab 0 12 26 [ii 1 2, .int 2, r] M = .ok (.bl false) M
  e24 : ∀ M, runF tab 0 12 24 [good, o] M = .ok (.bl false) M
  pap : ∀ x ∈ [t, o, r, h] ++ restL, ∀ M, runF tab 0 10 33 [good, x] M = .ok (.bl false) M
  shw : bels 0 (told h) = true ∧ ∃ s, shwS [] (.lst (told h)) = some (.str s)
theorem fs_of {t l h o r : D} (ht : t ∈ taskL) (hl : l ∈ lenL) (hh : h ∈ handL) (ho : o ∈ ordL) (hr : r ∈ rowL) : Fs t l h o r := by
  have f1 := all_at (all_at F1 ht) ho
  have f2 := all_at F2 ho
  have f3 := all_at F3 ht
  have f5 := all_at (all_at (all_at F5 hl) hh) hr
  have f6 := all_at (all_at F6 hh) hr
  have f7 := all_at F7 hr
  have f8 := all_at F8 hh
  have f9 := F9
  simp only [Bool.and_eq_true] at f1 f2 f3 f5 f6 f7 f8 f9
  have f8a := all_at f8.1 hl
  simp only [Bool.and_eq_true] at f8a
  exact
    { a22 := ranX rfl rfl f1.1, a30 := ranX rfl rfl f1.2
      b22 := ranX rfl rfl f2.1, b30 := ranX rfl rfl f2.2.1, e24 := ranK rfl rfl f2.2.2
      a23 := ranX rfl rfl f3.1, a25 := ranX rfl rfl f3.2.1, a31 := ranX rfl rfl f3.2.2.1, a32 := ranX rfl rfl f3.2.2.2.1, a24 := ranX rfl rfl f3.2.2.2.2.1, a33 := ranX rfl rfl f3.2.2.2.2.2
      a26 := ranX rfl rfl f5.1, a27 := ranX rfl rfl f5.2
      b26 := ranX rfl rfl f6.1, b27 := ranX rfl rfl f6.2
      c27 := ranX rfl rfl f7.1, e26 := ranK rfl rfl f7.2
      a28 := ranX rfl rfl f8a.1, a29 := ranX rfl rfl f8a.2, b28 := ranX rfl rfl f8.2.1, b29 := ranX rfl rfl f8.2.2
      d31 := ranX rfl rfl f9.1, d23 := ranX rfl rfl f9.2
      pap := fun x hx => by
        refine ranK rfl rfl (all_at F11 ?_)
        simp only [List.mem_append]
        rcases List.mem_append.mp hx with hx | hx
        · simp only [List.mem_cons, List.not_mem_nil, or_false] at hx
          rcases hx with rfl | rfl | rfl | rfl
          · exact .inl ht
          · exact .inr (.inl ho)
          · exact .inr (.inr (.inl hr))
          · exact .inr (.inr (.inr (.inl hh)))
        · exact .inr (.inr (.inr (.inr hx)))
      shw := shwOk_is (all_at shw_all hh) }
section
variable {M1 : List D} {e : Nat} {t l h o r : D}
theorem forL_step {b : Ss} {i : Nat} {x : D} {w rest : List D} {L L2 : Lo} {M M2 : List D} (h2 : exSs C b (L.set i (some x)) M = .next L2 M2) : forL ⟨w, none⟩ (.name i) (exSs C b) (x :: rest) L M = forL ⟨w, none⟩ (.name i) (exSs C b) rest L2 M2 := forL_cons rfl rfl h2
theorem for_done {b : Ss} {i : Nat} {w : List D} {L : Lo} {M : List D} : forL ⟨w, none⟩ (.name i) (exSs C b) [] L M = .next L M := forL_nil rfl
theorem loop0 (F : Fs t l h o r) : exS C (.«for» (.name 6) (.seq (.tup (.cons (.lit (.fn 22)) (.cons (.lit (.fn 30)) .nil)))) b38_0) (LL M1 [] e t l h o r none none) (Mem M1 [] [] []) =
    .next (LL M1 [.lst [], .lst [dJ, dO]] e t l h o r (some (.fn 30)) none) (Mem M1 [dJ, dO, dJ, dO] [.lst [], .lst [dJ, dO]] [dJ, dO, dJ, dO]) := by
  refine (show exS C _ _ _ = forL ⟨[.fn 22, .fn 30], none⟩ (.name 6) (exSs C b38_0) [.fn 22, .fn 30] (LL M1 [] e t l h o r none none) (Mem M1 [] [] []) from rfl).trans ?_
  rw [forL_step (turn0 (tl := []) (X := []) (dl := []) (v := none) F.a22 F.b22 (by decide) (by decide)), forL_step (turn0 F.a30 F.b30 (by decide) (by decide)), for_done]
  rfl
theorem loop1 {X dl tl : List D} {c : Option D} (F : Fs t l h o r) (h1 : tl.length < 100) (h2 : dl.length < 100) : exS C (.«for» (.name 6) (.seq (.tup (.cons (.lit (.fn 23)) (.cons (.lit (.fn 25)) (.cons (.lit (.fn 31)) (.cons (.lit (.fn 32)) .nil)))))) b38_1) (LL M1 X e t l h o r c none) (Mem M1 tl X dl) =
    .next (LL M1 X e t l h o r (some (.fn 32)) none) (Mem M1 (tl ++ [dJ] ++ [dJ] ++ [dJ] ++ [dJ]) X (dl ++ [dJ] ++ [dJ] ++ [dJ] ++ [dJ])) := by
  refine (show exS C _ _ _ = forL ⟨[.fn 23, .fn 25, .fn 31, .fn 32], none⟩ (.name 6) (exSs C b38_1) [.fn 23, .fn 25, .fn 31, .fn 32] (LL M1 X e t l h o r c none) (Mem M1 tl X dl) from rfl).trans ?_
  rw [forL_step (turn1 F.a23 (by omega) (by omega)), forL_step (turn1 F.a25 (by simp; omega) (by simp; omega)), forL_step (turn1 F.a31 (by simp; omega) (by simp; omega)), forL_step (turn1 F.a32 (by simp; omega) (by simp; omega)), for_done]
theorem loop2 {X dl tl : List D} {c : Option D} (F : Fs t l h o r) (h1 : tl.length < 100) (h2 : dl.length < 100) : exS C (.«for» (.name 6) (.seq (.tup (.cons (.lit (.fn 24)) (.cons (.lit (.fn 33)) .nil)))) b38_2) (LL M1 X e t l h o r c none) (Mem M1 tl X dl) =
    .next (LL M1 X e t l h o r (some (.fn 33)) none) (Mem M1 (tl ++ [dJ] ++ [dJ]) X (dl ++ [dJ] ++ [dJ])) := by
  refine (show exS C _ _ _ = forL ⟨[.fn 24, .fn 33], none⟩ (.name 6) (exSs C b38_2) [.fn 24, .fn 33] (LL M1 X e t l h o r c none) (Mem M1 tl X dl) from rfl).trans ?_
  rw [forL_step (turn2 F.a24 (by omega) (by omega)), forL_step (turn2 F.a33 (by simp; omega) (by simp; omega)), for_done]
theorem loop3 {X dl tl : List D} {c : Option D} (F : Fs t l h o r) (h1 : tl.length < 100) (h2 : dl.length < 100) : exS C (.«for» (.name 6) (.seq (.tup (.cons (.lit (.fn 26)) (.cons (.lit (.fn 27)) .nil)))) b38_3) (LL M1 X e t l h o r c none) (Mem M1 tl X dl) =
    .next (LL M1 (X ++ [.lst dl] ++ [.lst (dl ++ [dJ, dN h])]) e t l h o r (some (.fn 27)) none) (Mem M1 (tl ++ [dJ] ++ [dN h] ++ [dJ] ++ [dN h]) (X ++ [.lst dl] ++ [.lst (dl ++ [dJ, dN h])]) (dl ++ [dJ, dN h] ++ [dJ, dN h])) := by
  refine (show exS C _ _ _ = forL ⟨[.fn 26, .fn 27], none⟩ (.name 6) (exSs C b38_3) [.fn 26, .fn 27] (LL M1 X e t l h o r c none) (Mem M1 tl X dl) from rfl).trans ?_
  rw [forL_step (turn3 F.a26 F.b26 (by omega) (by omega)), forL_step (turn3 F.a27 F.b27 (by simp; omega) (by simp; omega)), for_done]
theorem loop4 {X dl tl : List D} {c : Option D} (F : Fs t l h o r) (h1 : tl.length < 100) (h2 : dl.length < 100) : exS C (.«for» (.name 6) (.seq (.tup (.cons (.lit (.fn 28)) (.cons (.lit (.fn 29)) .nil)))) b38_4) (LL M1 X e t l h o r c none) (Mem M1 tl X dl) =
    .next (LL M1 (X ++ [.lst dl] ++ [.lst (dl ++ [dJ, dN h])]) e t l h o r (some (.fn 29)) none) (Mem M1 (tl ++ [dJ] ++ [dN h] ++ [dJ] ++ [dN h]) (X ++ [.lst dl] ++ [.lst (dl ++ [dJ, dN h])]) (dl ++ [dJ, dN h] ++ [dJ, dN h])) := by
  refine (show exS C _ _ _ = forL ⟨[.fn 28, .fn 29], none⟩ (.name 6) (exSs C b38_4) [.fn 28, .fn 29] (LL M1 X e t l h o r c none) (Mem M1 tl X dl) from rfl).trans ?_
  rw [forL_step (turn4 F.a28 F.b28 (by omega) (by omega)), forL_step (turn4 F.a29 F.b29 (by simp; omega) (by simp; omega)), for_done]
theorem loop5 {X : List D} {c v : Option D} {M : List D} {xs w : List D} (hx : ∀ x ∈ xs, ∀ M, runF tab 0 10 33 [good, x] M = .ok (.bl false) M) : ∃ v', forL ⟨w, none⟩ (.name 8) (exSs C b38_5) xs (LL M1 X e t l h o r c v) M = .next (LL M1 X e t l h o r c v') M := by
  induction xs generalizing v with
  | nil => exact ⟨v, for_done⟩
  | cons x xs ih =>
    obtain ⟨v', q⟩ := ih (v := some x) fun y hy => hx y (List.mem_cons_of_mem _ hy)
    exact ⟨v', by rw [forL_step (L2 := LL M1 X e t l h o r c (some x)) (turn5 (hx x List.mem_cons_self))]; exact q⟩
end
end K82
/-! k82: one case and the law. -/
namespace K82
open MP EW
theorem t35 : tab[35]? = some ⟨false, 2, 5, bDrip, false⟩ := rfl
theorem t36 : tab[36]? = some ⟨false, 2, 2, bSip 35, false⟩ := rfl
theorem t34 : tab[34]? = some ⟨true, 2, 5, bEwer, false⟩ := rfl
theorem sip_at {M : List D} {e : Nat} {a b c : Int} (hM : M[e]? = some (ewr a b c)) {l : List D} (h0 : 0 < l.length) (h1 : l.length < 1000) (hc : bels 0 l = true) :
    ∃ v a' c', v ∈ l ∧ runF tab 0 12 36 [.ref e, .lst l] M = .ok v (M.set e (ewr a' b c')) := sipD (i := 36) (j := 35) t36 t35 10 hM h0 h1 hc
/-- x = _law_sip(ewer, ..) -/
theorem sip_st {L : Lo} {M : List D} {e j : Nat} {ex : E} {l : List D} {M2 : List D} {v : D} (h0 : L[0]? = some (some (.ref e))) (hx : evE C ex L M = .ok (.lst l) M) (q : runF tab 0 12 36 [.ref e, .lst l] M = .ok v M2) :
    exS C (.asg (.name j) (.call 36 (.cons (.var 0) (.cons ex .nil)))) L M = .next (L.set j (some v)) M2 := by
  rw [x_asg, e_call]
  have : evEs C (.cons (.var 0) (.cons ex .nil)) L M = .ok [.ref e, .lst l] M := by
    rw [es_cons, e_var, h0]
    show ((evEs C (.cons ex .nil) L M).bind _) = _
    rw [es_cons, hx]
    rfl
  rw [this]
  show (runF tab 0 12 36 [.ref e, .lst l] M).then L _ = _
  rw [q]
  rfl
section
variable {e : Nat} {t l h o r : D}
theorem cond_at {M : List D} {n u : Nat} {s : PySem.Str} {c v : Option D} (F : Fs t l h o r) (h10 : shwS M (.ref n) = some (.str s)) (h7 : shwS M (.ref u) = some (.str s)) :
    evE C (.orE (.cmp .ne (.shw (.var 10)) (.shw (.var 7))) (.orE (.cmp .isn (.call 26 (.cons (.tup (.cons (.lit (.int 1)) (.cons (.lit (.int 2)) .nil))) (.cons (.lit (.int 2)) (.cons (.var 5) .nil)))) (.lit (.bl false))) (.cmp .isn (.call 24 (.cons (.var 9) (.cons (.var 4) .nil))) (.lit (.bl false)))))
      [some (.ref e), some t, some l, some h, some o, some r, c, some (.ref u), v, some good, some (.ref n)] M = .ok (.bl false) M := by
  have q1 : evE C (.cmp .ne (.shw (.var 10)) (.shw (.var 7))) [some (.ref e), some t, some l, some h, some o, some r, c, some (.ref u), v, some good, some (.ref n)] M = .ok (.bl false) M := by
    rw [e_cmp]
    show (((ofO (shwS M (.ref n)) M).bind fun x M1 => ((ofO (shwS M1 (.ref u)) M1).bind fun y M2 => ofO ((cmpS M2 .ne x y).map D.bl) M2)) = _)
    rw [h10]
    show ((ofO (shwS M (.ref u)) M).bind fun y M2 => ofO ((cmpS M2 .ne (.str s) y).map D.bl) M2) = _
    rw [h7]
    show ofO ((cmpS M .ne (.str s) (.str s)).map D.bl) M = _
    rw [ne_str]
    rfl
  have q2 : evE C (.cmp .isn (.call 26 (.cons (.tup (.cons (.lit (.int 1)) (.cons (.lit (.int 2)) .nil))) (.cons (.lit (.int 2)) (.cons (.var 5) .nil)))) (.lit (.bl false))) [some (.ref e), some t, some l, some h, some o, some r, c, some (.ref u), v, some good, some (.ref n)] M = .ok (.bl false) M := by
    rw [e_cmp]
    show ((runF tab 0 12 26 [ii 1 2, .int 2, r] M).bind _) = _
    rw [F.e26]
    rfl
  have q3 : evE C (.cmp .isn (.call 24 (.cons (.var 9) (.cons (.var 4) .nil))) (.lit (.bl false))) [some (.ref e), some t, some l, some h, some o, some r, c, some (.ref u), v, some good, some (.ref n)] M = .ok (.bl false) M := by
    rw [e_cmp]
    show ((runF tab 0 12 24 [good, o] M).bind _) = _
    rw [F.e24]
    rfl
  rw [e_or, q1]
  show evE C (.orE _ _) _ M = _
  rw [e_or, q2]
  exact q3
theorem if_st {M1 tl dl X : List D} {c v : Option D} (F : Fs t l h o r) (ht : tl = told h) (hd : dl = told h) : exS C (.ite (.orE (.cmp .ne (.shw (.var 10)) (.shw (.var 7))) (.orE (.cmp .isn (.call 26 (.cons (.tup (.cons (.lit (.int 1)) (.cons (.lit (.int 2)) .nil))) (.cons (.lit (.int 2)) (.cons (.var 5) .nil)))) (.lit (.bl false))) (.cmp .isn (.call 24 (.cons (.var 9) (.cons (.var 4) .nil))) (.lit (.bl false))))) (.cons (.ret (.lit (.bl false))) .nil) .nil) (LL M1 X e t l h o r c v) (Mem M1 tl X dl) = .next (LL M1 X e t l h o r c v) (Mem M1 tl X dl) := by
  subst ht hd
  obtain ⟨sb, s, hs⟩ := F.shw
  rw [x_ite, cond_at F (s := s) ((shw_ref (l := told h) mem_told sb).trans hs) ((shw_ref (l := told h) mem_due sb).trans hs)]
  rfl
theorem for5 {M1 X M : List D} {c v : Option D} : exS C (.«for» (.name 8) (.seq (.tup (.cons (.var 1) (.cons (.var 4) (.cons (.var 5) (.cons (.var 3) (.cons (.new true (.disp (.cons (.new true (.disp .nil)) .nil))) (.cons (.dsp (.cons (.tup (.cons (.lit (.int 1)) (.cons (.lit (.int 2)) .nil))) (.cons (.new true .dict0) .nil))) (.cons (.dsp (.cons (.lit .non) (.cons (.tup (.cons (.lit (.int 0)) (.cons (.lit (.int 1)) .nil))) .nil))) (.cons (.dsp (.cons (.tup (.cons (.lit (.int 1)) (.cons (.lit .non) .nil))) (.cons (.tup (.cons (.lit (.int 0)) (.cons (.lit (.int 1)) .nil))) .nil))) (.cons (.dsp (.cons (.lit (.str "ab")) (.cons (.lit (.int 0)) .nil))) .nil))))))))))) b38_5) (LL M1 X e t l h o r c v) M = forL ⟨[t, o, r, h] ++ restL, none⟩ (.name 8) (exSs C b38_5) ([t, o, r, h] ++ restL) (LL M1 X e t l h o r c v) M := by
  rw [x_for]
  have e1 : ∀ it, evI C (.seq it) (LL M1 X e t l h o r c v) M = (evE C it (LL M1 X e t l h o r c v) M).bind fun x M1 => ofO (seqS M1 x) M1 := fun _ => rfl
  rw [e1, show evE C _ (LL M1 X e t l h o r c v) M = .ok (.tup ([t, o, r, h] ++ restL)) M from rfl]
  rfl
theorem last_st {M1 X M : List D} {c v : Option D} (F : Fs t l h o r) : ∃ v', exS C (.«for» (.name 8) (.seq (.tup (.cons (.var 1) (.cons (.var 4) (.cons (.var 5) (.cons (.var 3) (.cons (.new true (.disp (.cons (.new true (.disp .nil)) .nil))) (.cons (.dsp (.cons (.tup (.cons (.lit (.int 1)) (.cons (.lit (.int 2)) .nil))) (.cons (.new true .dict0) .nil))) (.cons (.dsp (.cons (.lit .non) (.cons (.tup (.cons (.lit (.int 0)) (.cons (.lit (.int 1)) .nil))) .nil))) (.cons (.dsp (.cons (.tup (.cons (.lit (.int 1)) (.cons (.lit .non) .nil))) (.cons (.tup (.cons (.lit (.int 0)) (.cons (.lit (.int 1)) .nil))) .nil))) (.cons (.dsp (.cons (.lit (.str "ab")) (.cons (.lit (.int 0)) .nil))) .nil))))))))))) b38_5) (LL M1 X e t l h o r c v) M = .next (LL M1 X e t l h o r c v') M := by
  obtain ⟨v', q⟩ := loop5 (M1 := M1) (X := X) (M := M) (c := c) (v := v) (e := e) (t := t) (l := l) (h := h) (o := o) (r := r) (w := [t, o, r, h] ++ restL) (xs := [t, o, r, h] ++ restL) F.pap
  exact ⟨v', for5.trans q⟩
end
theorem right {M : List D} {e : Nat} {a b c : Int} (hM : M[e]? = some (ewr a b c)) (hB : bels 0 M = true) : ∃ a' c', runF tab 0 13 38 [.ref e] M = .ok (.bl true) (M.set e (ewr a' b c')) := by
  obtain ⟨t, a1, c1, ht, q1⟩ := sip_at hM (l := taskL) (by decide) (by decide) (by decide +kernel)
  have hM1 := set_self (y := ewr a1 b c1) hM
  obtain ⟨l, a2, c2, hl, q2⟩ := sip_at hM1 (l := lenL) (by decide) (by decide) (by decide +kernel)
  have hM2 := set_self (y := ewr a2 b c2) hM1
  obtain ⟨h, a3, c3, hh, q3⟩ := sip_at hM2 (l := handL) (by decide) (by decide) (by decide +kernel)
  have hM3 := set_self (y := ewr a3 b c3) hM2
  obtain ⟨o, a4, c4, ho, q4⟩ := sip_at hM3 (l := ordL) (by decide) (by decide) (by decide +kernel)
  have hM4 := set_self (y := ewr a4 b c4) hM3
  obtain ⟨r, a5, c5, hr, q5⟩ := sip_at hM4 (l := rowL) (by decide) (by decide) (by decide +kernel)
  have F := fs_of ht hl hh ho hr
  simp only [List.set_set] at q2 q3 q4 q5
  refine ⟨a5, c5, ?_⟩
  have hB5 : bels 0 (M.set e (ewr a5 b c5)) = true := bels_set hB rfl
  have hL5 : (M.set e (ewr a5 b c5)).length = M.length := by simp
  show runF tab 0 (12 + 1) 38 [.ref e] M = _
  rw [run_eq (fd := ⟨false, 1, 11, b38, false⟩) rfl rfl]
  show fin false M (exSs C b38 [some (.ref e), none, none, none, none, none, none, none, none, none, none] M) = _
  generalize M.set e (ewr a5 b c5) = M5 at *
  generalize M.set e (ewr a1 b c1) = N1 at *
  generalize M.set e (ewr a2 b c2) = N2 at *
  generalize M.set e (ewr a3 b c3) = N3 at *
  generalize M.set e (ewr a4 b c4) = N4 at *
  have main : ∃ X, exSs C b38 [some (.ref e), none, none, none, none, none, none, none, none, none, none] M = .ret (.bl true) (M5 ++ X) := by
    apply Exists.intro
    unfold b38
    rw [seq_next (L1 := [some (.ref e), some (.lst taskL1), none, none, none, none, none, none, none, none, none]) (M1 := M) rfl]
    rw [seq_next (L1 := [some (.ref e), some (.lst taskL), none, none, none, none, none, none, none, none, none]) (M1 := M) rfl]
    rw [seq_next (sip_st (l := taskL) rfl rfl q1)]
    rw [seq_next (sip_st (l := lenL) rfl rfl q2)]
    rw [seq_next (sip_st (l := handL) rfl rfl q3)]
    rw [seq_next (sip_st (l := ordL) rfl rfl q4)]
    rw [seq_next (L1 := [some (.ref e), some t, some l, some h, some o, some (.lst rowL), none, none, none, none, none]) (M1 := N4) rfl]
    rw [seq_next (sip_st (l := rowL) rfl rfl q5)]
    rw [seq_next (L1 := LL M5 [] e t l h o r none none) (M1 := Mem M5 [] [] []) (by
      show RS.next _ _ = RS.next _ _
      have e1 : M5 ++ [D.lst []] ++ [D.lst []] = Mem M5 [] [] [] := by simp [Mem]
      have e2 : (M5 ++ [D.lst []]).length = M5.length + 1 := by simp
      rw [← e1, e2]
      rfl)]
    rw [seq_next (loop0 F), seq_next (loop1 F (by decide) (by decide)), seq_next (loop2 F (by decide) (by decide)), seq_next (loop3 F (by decide) (by decide))]
    refine (seq_next (told_at (d := dO) (by simp) (met_at (e := .non) (c := cO) ((low_call (vs := [ii 1 2, .int 2, r]) rfl).trans (F.c27 _)) metO))).trans ?_
    refine (seq_next (due_at (d := dO) (by simp) rfl)).trans ?_
    refine (seq_next (loop4 F (by simp) (by simp))).trans ?_
    refine (seq_next (told_at (d := dJ) (by simp) (met_at (e := .non) (c := cJ) ((low_call (vs := [.tup (List.replicate (8 : Int).toNat [ii 1 2]).flatten]) rfl).trans (F.d31 _)) metJ))).trans ?_
    refine (seq_next (told_at (d := dJ) (by simp) (met_at (e := .non) (c := cJ) ((low_call (vs := [.tup [ii 1 100]]) rfl).trans (F.d23 _)) metJ))).trans ?_
    refine (seq_next (cat_at (ds := [dJ, dJ]) (by simp) (by decide) rfl)).trans ?_
    refine (seq_next (if_st F rfl rfl)).trans ?_
    refine (seq_next (Classical.choose_spec (last_st F))).trans ?_
    exact (show RS.ret (.bl true) (Mem M5 _ _ _) = .ret (.bl true) (M5 ++ (.lst _ :: (_ ++ [.lst _]))) from rfl)
  obtain ⟨X, main⟩ := main
  rw [main, fin_ret]
  exact clean_drop hL5 (bels_mono (Nat.zero_le _) _ hB5) rfl
theorem case_at {M : List D} (hB : bels 0 M = true) (ns : List Int) (s : Nat) (x2 : Option D) :
    ∃ y2 M', exSs (clOf tab 0 13) b39_0 [some (.scr (ns.map .int)), some (.int (s : Int)), x2] M = .next [some (.scr (ns.map .int)), some (.int (s : Int)), y2] M' ∧ bels 0 M' = true := by
  obtain ⟨a, b, q⟩ := ewer (T := tab) t34 12 M ns s
  have hM : (M ++ [ewr a b 0])[M.length]? = some (ewr a b 0) := by
    rw [List.getElem?_append_right (Nat.le_refl _), Nat.sub_self]
    rfl
  have hB1 : bels 0 (M ++ [ewr a b 0]) = true := by
    rw [bels_iff] at hB ⊢
    intro d hd
    rcases List.mem_append.mp hd with z | z
    · exact hB d z
    · simp at z
      rw [z]
      rfl
  obtain ⟨a1, c1, q1⟩ := right hM hB1
  have hM1 := set_self (y := ewr a1 b c1) hM
  have hB2 := bels_set (e := M.length) (x := ewr a1 b c1) hB1 rfl
  obtain ⟨a2, c2, q2⟩ := right hM1 hB2
  have hB3 := bels_set (e := M.length) (x := ewr a2 b c2) hB2 rfl
  refine ⟨some (.ref M.length), _, ?_, hB3⟩
  generalize ((M ++ [ewr a b 0]).set M.length (ewr a1 b c1)).set M.length (ewr a2 b c2) = N3 at *
  generalize (M ++ [ewr a b 0]).set M.length (ewr a1 b c1) = N2 at *
  generalize M ++ [ewr a b 0] = N1 at *
  generalize M.length = n at *
  generalize (s : Int) = si at *
  generalize D.scr (ns.map .int) = sc at *
  unfold b39_0
  refine (seq_next (L1 := [some sc, some (.int si), some (.ref n)]) (M1 := N1) ?_).trans ?_
  · rw [x_asg, e_call]
    show ((runF tab 0 13 34 [sc, .int si] M).then _ _) = _
    rw [show runF tab 0 13 34 [sc, .int si] M = _ from q]
    rfl
  refine (seq_next (L1 := [some sc, some (.int si), some (.ref n)]) (M1 := N3) ?_).trans rfl
  rw [x_ite, e_or, e_not, e_tru, e_call]
  have e1 : evEs (clOf tab 0 13) (.cons (.var 2) .nil) [some sc, some (.int si), some (.ref n)] N1 = .ok [.ref n] N1 := rfl
  rw [e1, R.bind_ok, clOf_call', q1]
  show (((evE (clOf tab 0 13) (.notE (.tru (.call 38 (.cons (.var 2) .nil)))) [some sc, some (.int si), some (.ref n)] N2)).then _ _) = _
  rw [e_not, e_tru, e_call]
  have e2 : evEs (clOf tab 0 13) (.cons (.var 2) .nil) [some sc, some (.int si), some (.ref n)] N2 = .ok [.ref n] N2 := rfl
  rw [e2, R.bind_ok, clOf_call', q2]
  rfl
theorem law_tab (ns : List Int) (hns : ns.length ≤ 63) : ∃ M', runF tab 0 14 39 [.scr (ns.map .int)] [] = .ok (.bl true) M' := by
  refine ⟨[], ?_⟩
  show runF tab 0 (13 + 1) 39 [.scr (ns.map .int)] [] = _
  rw [run_eq (fd := ⟨false, 1, 3, b39, false⟩) rfl rfl]
  have hl : bltS [] .len [.scr (ns.map .int)] = some (.int ((ns.length : Nat) : Int)) := by
    show some (D.int ((ns.map D.int).length : Nat)) = _
    rw [List.length_map]
  obtain ⟨t3, h3⟩ : ∃ t : Int, t = if ((ns.length : Nat) : Int) < 4 then ((ns.length : Nat) : Int) else 4 := ⟨_, rfl⟩
  have hmin : bltS [] .min [.int 4, .int ((ns.length : Nat) : Int)] = some (.int t3) := by
    rw [h3]
    rfl
  obtain ⟨t, ht⟩ : ∃ t : Int, t = if t3 > 1 then t3 else 1 := ⟨_, rfl⟩
  have hmax : bltS [] .max [.int 1, .int t3] = some (.int t) := by
    rw [ht]
    rfl
  have ht3 : 0 ≤ t ∧ t ≤ 4 := by
    rw [ht, h3]
    split <;> split <;> omega
  clear ht h3
  have hr : rgOk 0 t = true := rg_ok ⟨ht3.1, by omega⟩
  have hrg := rgL_nat (many := t) (n := t.toNat) (by omega)
  obtain ⟨L', M', h, y1, y2, rfl, hB⟩ := forL_all (w := ⟨rgL 0 t, none⟩) (tg := .name 1) (body := exSs (clOf tab 0 13) b39_0) (L := [some (.scr (ns.map .int)), none, none]) (M := [])
    (fun i L M' => ∃ y1 y2, L = [some (.scr (ns.map .int)), y1, y2] ∧ bels 0 M' = true) ⟨none, none, rfl, rfl⟩ (fun _ _ _ _ => rfl) (fun i x L M' hx p => by
      obtain ⟨y1, y2, rfl, hB⟩ := p
      have hx' : (rgL 0 t)[i]? = some x := hx
      rw [hrg, List.getElem?_map, Option.map_eq_some_iff] at hx'
      obtain ⟨s, _, rfl⟩ := hx'
      obtain ⟨z2, M2, h, hB2⟩ := case_at hB ns s y2
      exact ⟨_, rfl, _, _, .inl h, some (.int (s : Int)), z2, rfl, hB2⟩)
  have q1 := ranK (k := 12) (n := 31) rfl rfl F12 M'
  have q2 := ranK (k := 12) (n := 23) rfl rfl F13 M'
  have c1 : cmpS M' .eq (.tup [ii 2772 (-306)]) (.tup [ii 2772 (-306)]) = some true := by
    have e0 : cmpS M' .eq (.tup [ii 2772 (-306)]) (.tup [ii 2772 (-306)]) = eqD M' (.tup [ii 2772 (-306)]) (.tup [ii 2772 (-306)]) := rfl
    have e1 : ∀ M, frz M 0 6 (.tup [ii 2772 (-306)]) = some (.tup [ii 2772 (-306)]) := fun M => frz_bel (by rfl)
    rw [e0]
    unfold eqD
    rw [e1]
    decide +kernel
  have main : exSs (clOf tab 0 13) b39 [some (.scr (ns.map .int)), none, none] [] = .ret (.bl true) M' := by
    unfold b39
    generalize hX : (D.tup (List.replicate (7 : Int).toNat [ii 99 999]).flatten) = X7 at q1
    generalize hY : (D.tup (List.replicate (9 : Int).toNat [ii 99 99]).flatten) = X9 at q2
    generalize ((ns.length : Nat) : Int) = nl at *
    generalize D.scr (ns.map .int) = sc at *
    refine (seq_next (L1 := [some sc, y1, y2]) (M1 := M') ?_).trans ?_
    · rw [x_for, range_run (i := 0) (j := t) (M1 := []) (M2 := []) rfl ?_ hr]
      · exact h
      · simp only [x_nil, x_cons, x_asg, x_ex, x_ret, x_ite, x_for, x_setI, x_aug, x_raise, e_var, e_lit, e_bin, e_neg, e_cmp, e_chain, e_and, e_or, e_not, e_ite, e_tru, e_tup, e_new, e_call, e_blt, e_mth, e_idx, e_slc, e_rev, p_nil, p_cons, es_nil, es_cons, c_nil, c_cons, n_disp, n_comp, n_comp2, n_listOf, n_listRg, n_sorted, n_dict0, e_dsp, e_setd, e_updt, e_callv, e_tupD, e_isN, es_star, n_listD, n_sortedD, i_keys, i_items, i_vals, x_asgIx, x_pass, x_brk, x_cont, x_raise, i_seq, i_range, i_enum, i_zip, clOf_call', cl_call, clOf_hi2, clOf_lower2, R.bind_ok, R.bind_exc, R.then_ok, R.then_exc, R.nx_ok, RS.seq_next, RS.seq_ret, RS.seq_exc, ofO_some, asg_name, asg_tup2, wipe_nil, wipe_cons, truth_bl, cont_ref, cont_tup, cont_lst, cont_scr, cont_int, cont_bl, cont_non, cont_str, cont_dct, bin_int, in_add, in_sub, cmp_lt, cmp_le, cmp_gt, cmp_ge, cmp_isnBl, cmp_eqI, cmp_neI, cmp_eqB, cmp_neB, at_0, at_1, at_2, fin_ret, fin_next, fin_keep, fin_exc, clean_int, clean_bl, clean_non, seq_tup, seq_lst, List.getElem?_cons_zero, List.getElem?_cons_succ, List.set_cons_zero, List.set_cons_succ, Option.map_some, List.map_cons, List.map_nil, if_true, if_false, Bool.false_eq_true, Bool.not_true, Bool.not_false, Bool.and_true, Bool.true_and, Bool.false_and, decide_true, decide_false, List.replicate, List.append, List.nil_append, List.cons_append, hl, hmin, hmax]
    refine ret_of ?_
    rw [e_and, e_cmp, e_call]
    have e1 : evEs (clOf tab 0 13) (.cons (.bin .mul (.tup (.cons (.tup (.cons (.lit (.int 99)) (.cons (.lit (.int 999)) .nil))) .nil)) (.lit (.int 7))) .nil) [some sc, y1, y2] M' = .ok [X7] M' := by
      rw [← hX]
      rfl
    rw [e1, R.bind_ok, clOf_call', q1, R.bind_ok]
    have e2 : evE (clOf tab 0 13) (.tup (.cons (.tup (.cons (.lit (.int 2772)) (.cons (.neg (.lit (.int 306))) .nil))) .nil)) [some sc, y1, y2] M' = .ok (.tup [ii 2772 (-306)]) M' := rfl
    rw [e2, R.bind_ok, c1]
    rw [show (ofO (Option.map D.bl (some true)) M' : R D) = .ok (.bl true) M' from rfl, R.bind_ok, e_cmp, e_call]
    have e3 : evEs (clOf tab 0 13) (.cons (.bin .mul (.tup (.cons (.tup (.cons (.lit (.int 99)) (.cons (.lit (.int 99)) .nil))) .nil)) (.lit (.int 9))) .nil) [some sc, y1, y2] M' = .ok [X9] M' := by
      rw [← hY]
      rfl
    rw [e3, R.bind_ok, clOf_call', q2, R.bind_ok]
    show ofO ((cmpS M' .eq (.int 441045) (.int 441045)).map D.bl) M' = _
    rw [cmp_eqI]
    rfl
  show fin false [] (exSs (clOf tab 0 13) b39 [some (.scr (ns.map .int)), none, none] []) = _
  rw [main, fin_ret]
  exact clean_rest (M := []) (rest := M') rfl
theorem law_ok (ns : List Int) (hns : ns.length ≤ 63) : ∃ M', runF (tabOf txt) 0 14 39 [.scr (ns.map .int)] [] = .ok (.bl true) M' := by
  rw [tab_is]
  exact law_tab ns hns
end K82
namespace K82
open PySem PySem.Spec PyProof.Rows L2 MP
theorem scs : txt.ds.all scB = true := by decide +kernel
variable [TabC]
abbrev xs_2 : Stmt := (clsBody (topS 4)).getD 0 (.Pass ⟨0, 0, 0, 0⟩)
def xd_2 : DefI := { x := "__init__", st := xs_2, N := ["self", "value"], ps := ["self", "value"] }
theorem all_mk {K : PySem.W.Frag} {h : Heap} {mg : Str → Option Value} (X : K.In h) (G : h.Ns mainGlobals mg)
    {f0 f1 f2 f3 f4 f5 f6 f7 f8 f9 f10 f11 f12 f13 f14 f15 f16 f17 f18 f19 f20 f21 f22 f23 f24 f25 f26 f27 f28 f29 f30 f31 f32 f33 f34 f35 f36 f37 f38 f39 E0 E1 E2 : Addr} {od0 an0 od1 an1 od2 an2 od3 an3 od4 an4 od5 an5 od6 an6 od7 an7 od8 an8 od9 an9 od10 an10 od11 an11 od12 an12 od13 an13 od14 an14 od15 an15 od16 an16 od17 an17 od18 an18 od19 an19 od20 an20 od21 an21 od22 an22 od23 an23 od24 an24 od25 an25 od26 an26 od27 an27 od28 an28 od29 an29 od30 an30 od31 an31 od32 an32 od33 an33 od34 an34 od35 an35 od36 an36 od37 an37 od38 an38 od39 an39 : Option Addr} {sl0 sl1 sl2 sl3 sl4 sl5 sl6 sl7 sl8 sl9 sl10 sl11 sl12 sl13 sl14 sl15 sl16 sl17 sl18 sl19 sl20 sl21 sl22 sl23 sl24 sl25 sl26 sl27 sl28 sl29 sl30 sl31 sl32 sl33 sl34 sl35 sl36 sl37 sl38 sl39 : Array (Option Value)} {oc0 kV0 dc0 pm0 cd0 ct0 oc1 kV1 dc1 pm1 cd1 ct1 oc2 kV2 dc2 pm2 cd2 ct2 oc3 kV3 dc3 pm3 cd3 ct3 oc4 kV4 dc4 pm4 cd4 ct4 oc5 kV5 dc5 pm5 cd5 ct5 oc6 kV6 dc6 pm6 cd6 ct6 oc7 kV7 dc7 pm7 cd7 ct7 oc8 kV8 dc8 pm8 cd8 ct8 oc9 kV9 dc9 pm9 cd9 ct9 oc10 kV10 dc10 pm10 cd10 ct10 oc11 kV11 dc11 pm11 cd11 ct11 oc12 kV12 dc12 pm12 cd12 ct12 oc13 kV13 dc13 pm13 cd13 ct13 oc14 kV14 dc14 pm14 cd14 ct14 oc15 kV15 dc15 pm15 cd15 ct15 oc16 kV16 dc16 pm16 cd16 ct16 oc17 kV17 dc17 pm17 cd17 ct17 oc18 kV18 dc18 pm18 cd18 ct18 oc19 kV19 dc19 pm19 cd19 ct19 oc20 kV20 dc20 pm20 cd20 ct20 oc21 kV21 dc21 pm21 cd21 ct21 oc22 kV22 dc22 pm22 cd22 ct22 oc23 kV23 dc23 pm23 cd23 ct23 oc24 kV24 dc24 pm24 cd24 ct24 oc25 kV25 dc25 pm25 cd25 ct25 oc26 kV26 dc26 pm26 cd26 ct26 oc27 kV27 dc27 pm27 cd27 ct27 oc28 kV28 dc28 pm28 cd28 ct28 oc29 kV29 dc29 pm29 cd29 ct29 oc30 kV30 dc30 pm30 cd30 ct30 oc31 kV31 dc31 pm31 cd31 ct31 oc32 kV32 dc32 pm32 cd32 ct32 oc33 kV33 dc33 pm33 cd33 ct33 oc34 kV34 dc34 pm34 cd34 ct34 oc35 kV35 dc35 pm35 cd35 ct35 oc36 kV36 dc36 pm36 cd36 ct36 oc37 kV37 dc37 pm37 cd37 ct37 oc38 kV38 dc38 pm38 cd38 ct38 oc39 kV39 dc39 pm39 cd39 ct39 : Value} {tk0 tk1 tk2 tk3 tk4 tk5 : Tok} {g2 : Addr} {god2 gan2 : Option Addr} {gsl2 : Array (Option Value)} {goc2 gkV2 gdc2 gpm2 gcd2 gct2 : Value}
    (a0 : PySem.W.nsIn K mainGlobals "is_amount_within" = some (some (.ref f0))) (l0 : K.lookup f0 = some ⟨oc0, od0, .func (PySem.W.fnOf "is_amount_within" "is_amount_within" (defArgs s0) (defBody s0) (defScope s0) .none kV0 dc0 pm0 an0 cd0 ct0), sl0⟩) (c0 : PySem.W.codeIn K cd0 "is_amount_within" = true) (k0 : PySem.W.keepIn K (.ref f0) = true)
    (a1 : PySem.W.nsIn K mainGlobals "is_whole_order" = some (some (.ref f1))) (l1 : K.lookup f1 = some ⟨oc1, od1, .func (PySem.W.fnOf "is_whole_order" "is_whole_order" (defArgs s1) (defBody s1) (defScope s1) .none kV1 dc1 pm1 an1 cd1 ct1), sl1⟩) (c1 : PySem.W.codeIn K cd1 "is_whole_order" = true) (k1 : PySem.W.keepIn K (.ref f1) = true)
    (a2 : PySem.W.nsIn K mainGlobals "ends_sum" = some (some (.ref f2))) (l2 : K.lookup f2 = some ⟨oc2, od2, .func (PySem.W.fnOf "ends_sum" "ends_sum" (defArgs s2) (defBody s2) (defScope s2) .none kV2 dc2 pm2 an2 cd2 ct2), sl2⟩) (c2 : PySem.W.codeIn K cd2 "ends_sum" = true) (k2 : PySem.W.keepIn K (.ref f2) = true)
    (a3 : PySem.W.nsIn K mainGlobals "smith_sum" = some (some (.ref f3))) (l3 : K.lookup f3 = some ⟨oc3, od3, .func (PySem.W.fnOf "smith_sum" "smith_sum" (defArgs s3) (defBody s3) (defScope s3) .none kV3 dc3 pm3 an3 cd3 ct3), sl3⟩) (c3 : PySem.W.codeIn K cd3 "smith_sum" = true) (k3 : PySem.W.keepIn K (.ref f3) = true)
    (a4 : PySem.W.nsIn K mainGlobals "are_like_tasks" = some (some (.ref f4))) (l4 : K.lookup f4 = some ⟨oc4, od4, .func (PySem.W.fnOf "are_like_tasks" "are_like_tasks" (defArgs s4) (defBody s4) (defScope s4) .none kV4 dc4 pm4 an4 cd4 ct4), sl4⟩) (c4 : PySem.W.codeIn K cd4 "are_like_tasks" = true) (k4 : PySem.W.keepIn K (.ref f4) = true)
    (a5 : PySem.W.nsIn K mainGlobals "count_least_orders" = some (some (.ref f5))) (l5 : K.lookup f5 = some ⟨oc5, od5, .func (PySem.W.fnOf "count_least_orders" "count_least_orders" (defArgs s5) (defBody s5) (defScope s5) .none kV5 dc5 pm5 an5 cd5 ct5), sl5⟩) (c5 : PySem.W.codeIn K cd5 "count_least_orders" = true) (k5 : PySem.W.keepIn K (.ref f5) = true)
    (a6 : PySem.W.nsIn K mainGlobals "longest_first" = some (some (.ref f6))) (l6 : K.lookup f6 = some ⟨oc6, od6, .func (PySem.W.fnOf "longest_first" "longest_first" (defArgs s6) (defBody s6) (defScope s6) .none kV6 dc6 pm6 an6 cd6 ct6), sl6⟩) (c6 : PySem.W.codeIn K cd6 "longest_first" = true) (k6 : PySem.W.keepIn K (.ref f6) = true)
    (a7 : PySem.W.nsIn K mainGlobals "hands_sum" = some (some (.ref f7))) (l7 : K.lookup f7 = some ⟨oc7, od7, .func (PySem.W.fnOf "hands_sum" "hands_sum" (defArgs s7) (defBody s7) (defScope s7) .none kV7 dc7 pm7 an7 cd7 ct7), sl7⟩) (c7 : PySem.W.codeIn K cd7 "hands_sum" = true) (k7 : PySem.W.keepIn K (.ref f7) = true)
    (a8 : PySem.W.nsIn K mainGlobals "rows_told" = some (some (.ref f8))) (l8 : K.lookup f8 = some ⟨oc8, od8, .func (PySem.W.fnOf "rows_told" "rows_told" (defArgs s8) (defBody s8) (defScope s8) .none kV8 dc8 pm8 an8 cd8 ct8), sl8⟩) (c8 : PySem.W.codeIn K cd8 "rows_told" = true) (k8 : PySem.W.keepIn K (.ref f8) = true)
    (a9 : PySem.W.nsIn K mainGlobals "are_rows_of" = some (some (.ref f9))) (l9 : K.lookup f9 = some ⟨oc9, od9, .func (PySem.W.fnOf "are_rows_of" "are_rows_of" (defArgs s9) (defBody s9) (defScope s9) .none kV9 dc9 pm9 an9 cd9 ct9), sl9⟩) (c9 : PySem.W.codeIn K cd9 "are_rows_of" = true) (k9 : PySem.W.keepIn K (.ref f9) = true)
    (a10 : PySem.W.nsIn K mainGlobals "rows_sum" = some (some (.ref f10))) (l10 : K.lookup f10 = some ⟨oc10, od10, .func (PySem.W.fnOf "rows_sum" "rows_sum" (defArgs s10) (defBody s10) (defScope s10) .none kV10 dc10 pm10 an10 cd10 ct10), sl10⟩) (c10 : PySem.W.codeIn K cd10 "rows_sum" = true) (k10 : PySem.W.keepIn K (.ref f10) = true)
    (a11 : PySem.W.nsIn K mainGlobals "pair_told" = some (some (.ref f11))) (l11 : K.lookup f11 = some ⟨oc11, od11, .func (PySem.W.fnOf "pair_told" "pair_told" (defArgs s11) (defBody s11) (defScope s11) .none kV11 dc11 pm11 an11 cd11 ct11), sl11⟩) (c11 : PySem.W.codeIn K cd11 "pair_told" = true) (k11 : PySem.W.keepIn K (.ref f11) = true)
    (a12 : PySem.W.nsIn K mainGlobals "kept_pairs" = some (some (.ref f12))) (l12 : K.lookup f12 = some ⟨oc12, od12, .func (PySem.W.fnOf "kept_pairs" "kept_pairs" (defArgs s12) (defBody s12) (defScope s12) .none kV12 dc12 pm12 an12 cd12 ct12), sl12⟩) (c12 : PySem.W.codeIn K cd12 "kept_pairs" = true) (k12 : PySem.W.keepIn K (.ref f12) = true)
    (a13 : PySem.W.nsIn K mainGlobals "fronts_behind" = some (some (.ref f13))) (l13 : K.lookup f13 = some ⟨oc13, od13, .func (PySem.W.fnOf "fronts_behind" "fronts_behind" (defArgs s13) (defBody s13) (defScope s13) .none kV13 dc13 pm13 an13 cd13 ct13), sl13⟩) (c13 : PySem.W.codeIn K cd13 "fronts_behind" = true) (k13 : PySem.W.keepIn K (.ref f13) = true)
    (a14 : PySem.W.nsIn K mainGlobals "front_told" = some (some (.ref f14))) (l14 : K.lookup f14 = some ⟨oc14, od14, .func (PySem.W.fnOf "front_told" "front_told" (defArgs s14) (defBody s14) (defScope s14) .none kV14 dc14 pm14 an14 cd14 ct14), sl14⟩) (c14 : PySem.W.codeIn K cd14 "front_told" = true) (k14 : PySem.W.keepIn K (.ref f14) = true)
    (a15 : PySem.W.nsIn K mainGlobals "is_pair_of_integers" = some (some (.ref f15))) (l15 : K.lookup f15 = some ⟨oc15, od15, .func (PySem.W.fnOf "is_pair_of_integers" "is_pair_of_integers" (defArgs s15) (defBody s15) (defScope s15) .none kV15 dc15 pm15 an15 cd15 ct15), sl15⟩) (c15 : PySem.W.codeIn K cd15 "is_pair_of_integers" = true) (k15 : PySem.W.keepIn K (.ref f15) = true)
    (a16 : PySem.W.nsIn K mainGlobals "shows_front" = some (some (.ref f16))) (l16 : K.lookup f16 = some ⟨oc16, od16, .func (PySem.W.fnOf "shows_front" "shows_front" (defArgs s16) (defBody s16) (defScope s16) .none kV16 dc16 pm16 an16 cd16 ct16), sl16⟩) (c16 : PySem.W.codeIn K cd16 "shows_front" = true) (k16 : PySem.W.keepIn K (.ref f16) = true)
    (a17 : PySem.W.nsIn K mainGlobals "are_amount_pairs" = some (some (.ref f17))) (l17 : K.lookup f17 = some ⟨oc17, od17, .func (PySem.W.fnOf "are_amount_pairs" "are_amount_pairs" (defArgs s17) (defBody s17) (defScope s17) .none kV17 dc17 pm17 an17 cd17 ct17), sl17⟩) (c17 : PySem.W.codeIn K cd17 "are_amount_pairs" = true) (k17 : PySem.W.keepIn K (.ref f17) = true)
    (a18 : PySem.W.nsIn K mainGlobals "require_weighed" = some (some (.ref f18))) (l18 : K.lookup f18 = some ⟨oc18, od18, .func (PySem.W.fnOf "require_weighed" "require_weighed" (defArgs s18) (defBody s18) (defScope s18) .none kV18 dc18 pm18 an18 cd18 ct18), sl18⟩) (c18 : PySem.W.codeIn K cd18 "require_weighed" = true) (k18 : PySem.W.keepIn K (.ref f18) = true)
    (a19 : PySem.W.nsIn K mainGlobals "require_timed" = some (some (.ref f19))) (l19 : K.lookup f19 = some ⟨oc19, od19, .func (PySem.W.fnOf "require_timed" "require_timed" (defArgs s19) (defBody s19) (defScope s19) .none kV19 dc19 pm19 an19 cd19 ct19), sl19⟩) (c19 : PySem.W.codeIn K cd19 "require_timed" = true) (k19 : PySem.W.keepIn K (.ref f19) = true)
    (a20 : PySem.W.nsIn K mainGlobals "require_lengths" = some (some (.ref f20))) (l20 : K.lookup f20 = some ⟨oc20, od20, .func (PySem.W.fnOf "require_lengths" "require_lengths" (defArgs s20) (defBody s20) (defScope s20) .none kV20 dc20 pm20 an20 cd20 ct20), sl20⟩) (c20 : PySem.W.codeIn K cd20 "require_lengths" = true) (k20 : PySem.W.keepIn K (.ref f20) = true)
    (a21 : PySem.W.nsIn K mainGlobals "require_whole_order" = some (some (.ref f21))) (l21 : K.lookup f21 = some ⟨oc21, od21, .func (PySem.W.fnOf "require_whole_order" "require_whole_order" (defArgs s21) (defBody s21) (defScope s21) .none kV21 dc21 pm21 an21 cd21 ct21), sl21⟩) (c21 : PySem.W.codeIn K cd21 "require_whole_order" = true) (k21 : PySem.W.keepIn K (.ref f21) = true)
    (a22 : PySem.W.nsIn K mainGlobals "sum_of" = some (some (.ref f22))) (l22 : K.lookup f22 = some ⟨oc22, od22, .func (PySem.W.fnOf "sum_of" "sum_of" (defArgs s22) (defBody s22) (defScope s22) .none kV22 dc22 pm22 an22 cd22 ct22), sl22⟩) (c22 : PySem.W.codeIn K cd22 "sum_of" = true) (k22 : PySem.W.keepIn K (.ref f22) = true)
    (a23 : PySem.W.nsIn K mainGlobals "least_sum" = some (some (.ref f23))) (l23 : K.lookup f23 = some ⟨oc23, od23, .func (PySem.W.fnOf "least_sum" "least_sum" (defArgs s23) (defBody s23) (defScope s23) .none kV23 dc23 pm23 an23 cd23 ct23), sl23⟩) (c23 : PySem.W.codeIn K cd23 "least_sum" = true) (k23 : PySem.W.keepIn K (.ref f23) = true)
    (a24 : PySem.W.nsIn K mainGlobals "is_least_order" = some (some (.ref f24))) (l24 : K.lookup f24 = some ⟨oc24, od24, .func (PySem.W.fnOf "is_least_order" "is_least_order" (defArgs s24) (defBody s24) (defScope s24) .none kV24 dc24 pm24 an24 cd24 ct24), sl24⟩) (c24 : PySem.W.codeIn K cd24 "is_least_order" = true) (k24 : PySem.W.keepIn K (.ref f24) = true)
    (a25 : PySem.W.nsIn K mainGlobals "count_least" = some (some (.ref f25))) (l25 : K.lookup f25 = some ⟨oc25, od25, .func (PySem.W.fnOf "count_least" "count_least" (defArgs s25) (defBody s25) (defScope s25) .none kV25 dc25 pm25 an25 cd25 ct25), sl25⟩) (c25 : PySem.W.codeIn K cd25 "count_least" = true) (k25 : PySem.W.keepIn K (.ref f25) = true)
    (a26 : PySem.W.nsIn K mainGlobals "is_rows" = some (some (.ref f26))) (l26 : K.lookup f26 = some ⟨oc26, od26, .func (PySem.W.fnOf "is_rows" "is_rows" (defArgs s26) (defBody s26) (defScope s26) .none kV26 dc26 pm26 an26 cd26 ct26), sl26⟩) (c26 : PySem.W.codeIn K cd26 "is_rows" = true) (k26 : PySem.W.keepIn K (.ref f26) = true)
    (a27 : PySem.W.nsIn K mainGlobals "sum_of_rows" = some (some (.ref f27))) (l27 : K.lookup f27 = some ⟨oc27, od27, .func (PySem.W.fnOf "sum_of_rows" "sum_of_rows" (defArgs s27) (defBody s27) (defScope s27) .none kV27 dc27 pm27 an27 cd27 ct27), sl27⟩) (c27 : PySem.W.codeIn K cd27 "sum_of_rows" = true) (k27 : PySem.W.keepIn K (.ref f27) = true)
    (a28 : PySem.W.nsIn K mainGlobals "least_rows" = some (some (.ref f28))) (l28 : K.lookup f28 = some ⟨oc28, od28, .func (PySem.W.fnOf "least_rows" "least_rows" (defArgs s28) (defBody s28) (defScope s28) .none kV28 dc28 pm28 an28 cd28 ct28), sl28⟩) (c28 : PySem.W.codeIn K cd28 "least_rows" = true) (k28 : PySem.W.keepIn K (.ref f28) = true)
    (a29 : PySem.W.nsIn K mainGlobals "least_hands_sum" = some (some (.ref f29))) (l29 : K.lookup f29 = some ⟨oc29, od29, .func (PySem.W.fnOf "least_hands_sum" "least_hands_sum" (defArgs s29) (defBody s29) (defScope s29) .none kV29 dc29 pm29 an29 cd29 ct29), sl29⟩) (c29 : PySem.W.codeIn K cd29 "least_hands_sum" = true) (k29 : PySem.W.keepIn K (.ref f29) = true)
    (a30 : PySem.W.nsIn K mainGlobals "pair_of" = some (some (.ref f30))) (l30 : K.lookup f30 = some ⟨oc30, od30, .func (PySem.W.fnOf "pair_of" "pair_of" (defArgs s30) (defBody s30) (defScope s30) .none kV30 dc30 pm30 an30 cd30 ct30), sl30⟩) (c30 : PySem.W.codeIn K cd30 "pair_of" = true) (k30 : PySem.W.keepIn K (.ref f30) = true)
    (a31 : PySem.W.nsIn K mainGlobals "front" = some (some (.ref f31))) (l31 : K.lookup f31 = some ⟨oc31, od31, .func (PySem.W.fnOf "front" "front" (defArgs s31) (defBody s31) (defScope s31) .none kV31 dc31 pm31 an31 cd31 ct31), sl31⟩) (c31 : PySem.W.codeIn K cd31 "front" = true) (k31 : PySem.W.keepIn K (.ref f31) = true)
    (a32 : PySem.W.nsIn K mainGlobals "front_paper" = some (some (.ref f32))) (l32 : K.lookup f32 = some ⟨oc32, od32, .func (PySem.W.fnOf "front_paper" "front_paper" (defArgs s32) (defBody s32) (defScope s32) .none kV32 dc32 pm32 an32 cd32 ct32), sl32⟩) (c32 : PySem.W.codeIn K cd32 "front_paper" = true) (k32 : PySem.W.keepIn K (.ref f32) = true)
    (a33 : PySem.W.nsIn K mainGlobals "is_front_paper" = some (some (.ref f33))) (l33 : K.lookup f33 = some ⟨oc33, od33, .func (PySem.W.fnOf "is_front_paper" "is_front_paper" (defArgs s33) (defBody s33) (defScope s33) .none kV33 dc33 pm33 an33 cd33 ct33), sl33⟩) (c33 : PySem.W.codeIn K cd33 "is_front_paper" = true) (k33 : PySem.W.keepIn K (.ref f33) = true)
    (a34 : PySem.W.nsIn K mainGlobals "_law_ewer" = some (some (.ref f34))) (l34 : K.lookup f34 = some ⟨oc34, od34, .func (PySem.W.fnOf "_law_ewer" "_law_ewer" (defArgs s34) (defBody s34) (defScope s34) .none kV34 dc34 pm34 an34 cd34 ct34), sl34⟩) (c34 : PySem.W.codeIn K cd34 "_law_ewer" = true) (k34 : PySem.W.keepIn K (.ref f34) = true)
    (a35 : PySem.W.nsIn K mainGlobals "_law_drip" = some (some (.ref f35))) (l35 : K.lookup f35 = some ⟨oc35, od35, .func (PySem.W.fnOf "_law_drip" "_law_drip" (defArgs s35) (defBody s35) (defScope s35) .none kV35 dc35 pm35 an35 cd35 ct35), sl35⟩) (c35 : PySem.W.codeIn K cd35 "_law_drip" = true) (k35 : PySem.W.keepIn K (.ref f35) = true)
    (a36 : PySem.W.nsIn K mainGlobals "_law_sip" = some (some (.ref f36))) (l36 : K.lookup f36 = some ⟨oc36, od36, .func (PySem.W.fnOf "_law_sip" "_law_sip" (defArgs s36) (defBody s36) (defScope s36) .none kV36 dc36 pm36 an36 cd36 ct36), sl36⟩) (c36 : PySem.W.codeIn K cd36 "_law_sip" = true) (k36 : PySem.W.keepIn K (.ref f36) = true)
    (a37 : PySem.W.nsIn K mainGlobals "_law_met" = some (some (.ref f37))) (l37 : K.lookup f37 = some ⟨oc37, od37, .func (PySem.W.fnOf "_law_met" "_law_met" (defArgs s37) (defBody s37) (defScope s37) .none kV37 dc37 pm37 an37 cd37 ct37), sl37⟩) (c37 : PySem.W.codeIn K cd37 "_law_met" = true) (k37 : PySem.W.keepIn K (.ref f37) = true)
    (a38 : PySem.W.nsIn K mainGlobals "_law_right" = some (some (.ref f38))) (l38 : K.lookup f38 = some ⟨oc38, od38, .func (PySem.W.fnOf "_law_right" "_law_right" (defArgs s38) (defBody s38) (defScope s38) .none kV38 dc38 pm38 an38 cd38 ct38), sl38⟩) (c38 : PySem.W.codeIn K cd38 "_law_right" = true) (k38 : PySem.W.keepIn K (.ref f38) = true)
    (a39 : PySem.W.nsIn K mainGlobals "law" = some (some (.ref f39))) (l39 : K.lookup f39 = some ⟨oc39, od39, .func (PySem.W.fnOf "law" "law" (defArgs s39) (defBody s39) (defScope s39) .none kV39 dc39 pm39 an39 cd39 ct39), sl39⟩) (c39 : PySem.W.codeIn K cd39 "law" = true) (k39 : PySem.W.keepIn K (.ref f39) = true)
    (v0 : PySem.W.nsIn K mainGlobals "MOST_WEIGHED" = some (some (.int 9 tk0)))
    (v1 : PySem.W.nsIn K mainGlobals "MOST_TIMED" = some (some (.int 7 tk1)))
    (v2 : PySem.W.nsIn K mainGlobals "MOST_SPAN" = some (some (.int 99 tk2)))
    (v3 : PySem.W.nsIn K mainGlobals "MOST_WEIGHT" = some (some (.int 99 tk3)))
    (v4 : PySem.W.nsIn K mainGlobals "MOST_LATE_DUE" = some (some (.int 999 tk4)))
    (v5 : PySem.W.nsIn K mainGlobals "MOST_SUM_HANDS" = some (some (.int 4 tk5)))
    (z0 : PySem.W.nsIn K mainGlobals "len" = some none)
    (z1 : PySem.W.nsIn K mainGlobals "abs" = some none)
    (z2 : PySem.W.nsIn K mainGlobals "int" = some none)
    (z3 : PySem.W.nsIn K mainGlobals "max" = some none)
    (z4 : PySem.W.nsIn K mainGlobals "min" = some none)
    (z5 : PySem.W.nsIn K mainGlobals "sum" = some none)
    (z6 : PySem.W.nsIn K mainGlobals "all" = some none)
    (z7 : PySem.W.nsIn K mainGlobals "isinstance" = some none)
    (z8 : PySem.W.nsIn K mainGlobals "repr" = some none)
    (z9 : PySem.W.nsIn K mainGlobals "tuple" = some none)
    (z10 : PySem.W.nsIn K mainGlobals "list" = some none)
    (z11 : PySem.W.nsIn K mainGlobals "sorted" = some none)
    (z12 : PySem.W.nsIn K mainGlobals "range" = some none)
    (z13 : PySem.W.nsIn K mainGlobals "enumerate" = some none)
    (z14 : PySem.W.nsIn K mainGlobals "bool" = some none)
    (z15 : PySem.W.nsIn K mainGlobals "dict" = some none)
    (en0 : PySem.W.nsIn K mainGlobals "InvalidJobs" = some (some (.ref E0)))
    (en1 : PySem.W.nsIn K mainGlobals "InvalidOperation" = some (some (.ref E1)))
    (en2 : PySem.W.nsIn K mainGlobals "InvalidNumber" = some (some (.ref E2)))
    (ex0 : PySem.W.excIn K E0 [.type "ValueError", .type "Exception", .type "BaseException", .type "object"] "ValueError.__new__" = true) (ek0 : PySem.W.keepIn K (.ref E0) = true) (eb0 : PySem.W.subIn K (.ref E0) (.type "BaseException") = some true) (et0 : PySem.W.typeIn K (.ref E0) = some (.type "type"))
    (ex1 : PySem.W.excIn K E1 [.type "ValueError", .type "Exception", .type "BaseException", .type "object"] "ValueError.__new__" = true) (ek1 : PySem.W.keepIn K (.ref E1) = true) (eb1 : PySem.W.subIn K (.ref E1) (.type "BaseException") = some true) (et1 : PySem.W.typeIn K (.ref E1) = some (.type "type"))
    (xi2 : PySem.W.excInitIn K E2 [.type "IndexError", .type "LookupError", .type "Exception", .type "BaseException", .type "object"] "IndexError.__new__" = true) (xo2 : PySem.W.excOver K E2 [.type "IndexError", .type "LookupError", .type "Exception", .type "BaseException", .type "object"] = true) (xd2 : PySem.W.hasDictIn K E2 = true) (xt2 : PySem.W.takerIn K E2 "value" = some none)
    (xs2 : PySem.W.findIn K (.ref E2) "__setattr__" = some (some (.builtin "object.__setattr__"))) (ek2 : PySem.W.keepIn K (.ref E2) = true) (eb2 : PySem.W.subIn K (.ref E2) (.type "BaseException") = some true) (et2 : PySem.W.typeIn K (.ref E2) = some (.type "type"))
    (xr2 : xfB K E2 = true) (xf2 : PySem.W.findIn K (.ref E2) "value" = some none)
    (xa2 : PySem.W.findIn K (.ref E2) "__init__" = some (some (.ref g2))) (xb2 : PySem.W.typeIn K (.ref g2) = some (.type "function")) (xl2 : K.lookup g2 = some ⟨goc2, god2, .func (PySem.W.fnOf "__init__" "InvalidNumber.__init__" (defArgs (xs_2)) (defBody (xs_2)) (defScope (xs_2)) .none gkV2 gdc2 gpm2 gan2 gcd2 gct2), gsl2⟩) (xc2 : PySem.W.codeIn K gcd2 "InvalidNumber.__init__" = true) (xk2 : PySem.W.keepIn K (.ref g2) = true)
    (em0_0 : PySem.W.exmOne K (.ref E0) (.ref E0) = some true)
    (em1_0 : PySem.W.exmOne K (.ref E1) (.ref E0) = some false)
    (em2_0 : PySem.W.exmOne K (.ref E2) (.ref E0) = some false)
    (em0_1 : PySem.W.exmOne K (.ref E0) (.ref E1) = some false)
    (em1_1 : PySem.W.exmOne K (.ref E1) (.ref E1) = some true)
    (em2_1 : PySem.W.exmOne K (.ref E2) (.ref E1) = some false)
    (em0_2 : PySem.W.exmOne K (.ref E0) (.ref E2) = some false)
    (em1_2 : PySem.W.exmOne K (.ref E1) (.ref E2) = some false)
    (em2_2 : PySem.W.exmOne K (.ref E2) (.ref E2) = some true)
    (hFe : TabC.F = [f0, f1, f2, f3, f4, f5, f6, f7, f8, f9, f10, f11, f12, f13, f14, f15, f16, f17, f18, f19, f20, f21, f22, f23, f24, f25, f26, f27, f28, f29, f30, f31, f32, f33])
    : TxtOk txt K mg where
  fns := DFs_of (ds := [d0, d1, d2, d3, d4, d5, d6, d7, d8, d9, d10, d11, d12, d13, d14, d15, d16, d17, d18, d19, d20, d21, d22, d23, d24, d25, d26, d27, d28, d29, d30, d31, d32, d33, d34, d35, d36, d37, d38, d39])
    (.cons
    (⟨f0, _, fun_mk (st := s0) l0 c0 k0, PySem.W.mg_of X G a0, (fun_mk (st := s0) l0 c0 k0).binds (ps := ["value", "low", "high"]) fun _ _ _ _ _ _ us hl => match us, hl with | [_, _, _], _ => rfl⟩ : DF K mg d0) (.cons
    (⟨f1, _, fun_mk (st := s1) l1 c1 k1, PySem.W.mg_of X G a1, (fun_mk (st := s1) l1 c1 k1).binds (ps := ["many", "value"]) fun _ _ _ _ _ _ us hl => match us, hl with | [_, _], _ => rfl⟩ : DF K mg d1) (.cons
    (⟨f2, _, fun_mk (st := s2) l2 c2 k2, PySem.W.mg_of X G a2, (fun_mk (st := s2) l2 c2 k2).binds (ps := ["tasks", "order"]) fun _ _ _ _ _ _ us hl => match us, hl with | [_, _], _ => rfl⟩ : DF K mg d2) (.cons
    (⟨f3, _, fun_mk (st := s3) l3 c3 k3, PySem.W.mg_of X G a3, (fun_mk (st := s3) l3 c3 k3).binds (ps := ["tasks"]) fun _ _ _ _ _ _ us hl => match us, hl with | [_], _ => rfl⟩ : DF K mg d3) (.cons
    (⟨f4, _, fun_mk (st := s4) l4 c4 k4, PySem.W.mg_of X G a4, (fun_mk (st := s4) l4 c4 k4).binds (ps := ["one", "other"]) fun _ _ _ _ _ _ us hl => match us, hl with | [_, _], _ => rfl⟩ : DF K mg d4) (.cons
    (⟨f5, _, fun_mk (st := s5) l5 c5 k5, PySem.W.mg_of X G a5, (fun_mk (st := s5) l5 c5 k5).binds (ps := ["tasks"]) fun _ _ _ _ _ _ us hl => match us, hl with | [_], _ => rfl⟩ : DF K mg d5) (.cons
    (⟨f6, _, fun_mk (st := s6) l6 c6 k6, PySem.W.mg_of X G a6, (fun_mk (st := s6) l6 c6 k6).binds (ps := ["lengths"]) fun _ _ _ _ _ _ us hl => match us, hl with | [_], _ => rfl⟩ : DF K mg d6) (.cons
    (⟨f7, _, fun_mk (st := s7) l7 c7 k7, PySem.W.mg_of X G a7, (fun_mk (st := s7) l7 c7 k7).binds (ps := ["lengths", "hands"]) fun _ _ _ _ _ _ us hl => match us, hl with | [_, _], _ => rfl⟩ : DF K mg d7) (.cons
    (⟨f8, _, fun_mk (st := s8) l8 c8 k8, PySem.W.mg_of X G a8, (fun_mk (st := s8) l8 c8 k8).binds (ps := ["lengths", "hands"]) fun _ _ _ _ _ _ us hl => match us, hl with | [_, _], _ => rfl⟩ : DF K mg d8) (.cons
    (⟨f9, _, fun_mk (st := s9) l9 c9 k9, PySem.W.mg_of X G a9, (fun_mk (st := s9) l9 c9 k9).binds (ps := ["lengths", "hands", "value"]) fun _ _ _ _ _ _ us hl => match us, hl with | [_, _, _], _ => rfl⟩ : DF K mg d9) (.cons
    (⟨f10, _, fun_mk (st := s10) l10 c10 k10, PySem.W.mg_of X G a10, (fun_mk (st := s10) l10 c10 k10).binds (ps := ["lengths", "rows"]) fun _ _ _ _ _ _ us hl => match us, hl with | [_, _], _ => rfl⟩ : DF K mg d10) (.cons
    (⟨f11, _, fun_mk (st := s11) l11 c11 k11, PySem.W.mg_of X G a11, (fun_mk (st := s11) l11 c11 k11).binds (ps := ["timed", "order"]) fun _ _ _ _ _ _ us hl => match us, hl with | [_, _], _ => rfl⟩ : DF K mg d11) (.cons
    (⟨f12, _, fun_mk (st := s12) l12 c12 k12, PySem.W.mg_of X G a12, (fun_mk (st := s12) l12 c12 k12).binds (ps := ["some"]) fun _ _ _ _ _ _ us hl => match us, hl with | [_], _ => rfl⟩ : DF K mg d12) (.cons
    (⟨f13, _, fun_mk (st := s13) l13 c13 k13, PySem.W.mg_of X G a13, (fun_mk (st := s13) l13 c13 k13).binds (ps := ["timed", "here"]) fun _ _ _ _ _ _ us hl => match us, hl with | [_, _], _ => rfl⟩ : DF K mg d13) (.cons
    (⟨f14, _, fun_mk (st := s14) l14 c14 k14, PySem.W.mg_of X G a14, (fun_mk (st := s14) l14 c14 k14).binds (ps := ["timed"]) fun _ _ _ _ _ _ us hl => match us, hl with | [_], _ => rfl⟩ : DF K mg d14) (.cons
    (⟨f15, _, fun_mk (st := s15) l15 c15 k15, PySem.W.mg_of X G a15, (fun_mk (st := s15) l15 c15 k15).binds (ps := ["value"]) fun _ _ _ _ _ _ us hl => match us, hl with | [_], _ => rfl⟩ : DF K mg d15) (.cons
    (⟨f16, _, fun_mk (st := s16) l16 c16 k16, PySem.W.mg_of X G a16, (fun_mk (st := s16) l16 c16 k16).binds (ps := ["timed", "value"]) fun _ _ _ _ _ _ us hl => match us, hl with | [_, _], _ => rfl⟩ : DF K mg d16) (.cons
    (⟨f17, _, fun_mk (st := s17) l17 c17 k17, PySem.W.mg_of X G a17, (fun_mk (st := s17) l17 c17 k17).binds (ps := ["value", "most", "low", "high"]) fun _ _ _ _ _ _ us hl => match us, hl with | [_, _, _, _], _ => rfl⟩ : DF K mg d17) (.cons
    (⟨f18, _, fun_mk (st := s18) l18 c18 k18, PySem.W.mg_of X G a18, (fun_mk (st := s18) l18 c18 k18).binds (ps := ["tasks"]) fun _ _ _ _ _ _ us hl => match us, hl with | [_], _ => rfl⟩ : DF K mg d18) (.cons
    (⟨f19, _, fun_mk (st := s19) l19 c19 k19, PySem.W.mg_of X G a19, (fun_mk (st := s19) l19 c19 k19).binds (ps := ["timed"]) fun _ _ _ _ _ _ us hl => match us, hl with | [_], _ => rfl⟩ : DF K mg d19) (.cons
    (⟨f20, _, fun_mk (st := s20) l20 c20 k20, PySem.W.mg_of X G a20, (fun_mk (st := s20) l20 c20 k20).binds (ps := ["lengths", "hands"]) fun _ _ _ _ _ _ us hl => match us, hl with | [_, _], _ => rfl⟩ : DF K mg d20) (.cons
    (⟨f21, _, fun_mk (st := s21) l21 c21 k21, PySem.W.mg_of X G a21, (fun_mk (st := s21) l21 c21 k21).binds (ps := ["tasks", "order"]) fun _ _ _ _ _ _ us hl => match us, hl with | [_, _], _ => rfl⟩ : DF K mg d21) (.cons
    (⟨f22, _, fun_mk (st := s22) l22 c22 k22, PySem.W.mg_of X G a22, (fun_mk (st := s22) l22 c22 k22).binds (ps := ["tasks", "order"]) fun _ _ _ _ _ _ us hl => match us, hl with | [_, _], _ => rfl⟩ : DF K mg d22) (.cons
    (⟨f23, _, fun_mk (st := s23) l23 c23 k23, PySem.W.mg_of X G a23, (fun_mk (st := s23) l23 c23 k23).binds (ps := ["tasks"]) fun _ _ _ _ _ _ us hl => match us, hl with | [_], _ => rfl⟩ : DF K mg d23) (.cons
    (⟨f24, _, fun_mk (st := s24) l24 c24 k24, PySem.W.mg_of X G a24, (fun_mk (st := s24) l24 c24 k24).binds (ps := ["tasks", "value"]) fun _ _ _ _ _ _ us hl => match us, hl with | [_, _], _ => rfl⟩ : DF K mg d24) (.cons
    (⟨f25, _, fun_mk (st := s25) l25 c25 k25, PySem.W.mg_of X G a25, (fun_mk (st := s25) l25 c25 k25).binds (ps := ["tasks"]) fun _ _ _ _ _ _ us hl => match us, hl with | [_], _ => rfl⟩ : DF K mg d25) (.cons
    (⟨f26, _, fun_mk (st := s26) l26 c26 k26, PySem.W.mg_of X G a26, (fun_mk (st := s26) l26 c26 k26).binds (ps := ["lengths", "hands", "value"]) fun _ _ _ _ _ _ us hl => match us, hl with | [_, _, _], _ => rfl⟩ : DF K mg d26) (.cons
    (⟨f27, _, fun_mk (st := s27) l27 c27 k27, PySem.W.mg_of X G a27, (fun_mk (st := s27) l27 c27 k27).binds (ps := ["lengths", "hands", "rows"]) fun _ _ _ _ _ _ us hl => match us, hl with | [_, _, _], _ => rfl⟩ : DF K mg d27) (.cons
    (⟨f28, _, fun_mk (st := s28) l28 c28 k28, PySem.W.mg_of X G a28, (fun_mk (st := s28) l28 c28 k28).binds (ps := ["lengths", "hands"]) fun _ _ _ _ _ _ us hl => match us, hl with | [_, _], _ => rfl⟩ : DF K mg d28) (.cons
    (⟨f29, _, fun_mk (st := s29) l29 c29 k29, PySem.W.mg_of X G a29, (fun_mk (st := s29) l29 c29 k29).binds (ps := ["lengths", "hands"]) fun _ _ _ _ _ _ us hl => match us, hl with | [_, _], _ => rfl⟩ : DF K mg d29) (.cons
    (⟨f30, _, fun_mk (st := s30) l30 c30 k30, PySem.W.mg_of X G a30, (fun_mk (st := s30) l30 c30 k30).binds (ps := ["timed", "order"]) fun _ _ _ _ _ _ us hl => match us, hl with | [_, _], _ => rfl⟩ : DF K mg d30) (.cons
    (⟨f31, _, fun_mk (st := s31) l31 c31 k31, PySem.W.mg_of X G a31, (fun_mk (st := s31) l31 c31 k31).binds (ps := ["timed"]) fun _ _ _ _ _ _ us hl => match us, hl with | [_], _ => rfl⟩ : DF K mg d31) (.cons
    (⟨f32, _, fun_mk (st := s32) l32 c32 k32, PySem.W.mg_of X G a32, (fun_mk (st := s32) l32 c32 k32).binds (ps := ["timed"]) fun _ _ _ _ _ _ us hl => match us, hl with | [_], _ => rfl⟩ : DF K mg d32) (.cons
    (⟨f33, _, fun_mk (st := s33) l33 c33 k33, PySem.W.mg_of X G a33, (fun_mk (st := s33) l33 c33 k33).binds (ps := ["timed", "value"]) fun _ _ _ _ _ _ us hl => match us, hl with | [_, _], _ => rfl⟩ : DF K mg d33) (.cons
    (⟨f34, _, fun_mk (st := s34) l34 c34 k34, PySem.W.mg_of X G a34, (fun_mk (st := s34) l34 c34 k34).binds (ps := ["script", "spot"]) fun _ _ _ _ _ _ us hl => match us, hl with | [_, _], _ => rfl⟩ : DF K mg d34) (.cons
    (⟨f35, _, fun_mk (st := s35) l35 c35 k35, PySem.W.mg_of X G a35, (fun_mk (st := s35) l35 c35 k35).binds (ps := ["ewer", "total"]) fun _ _ _ _ _ _ us hl => match us, hl with | [_, _], _ => rfl⟩ : DF K mg d35) (.cons
    (⟨f36, _, fun_mk (st := s36) l36 c36 k36, PySem.W.mg_of X G a36, (fun_mk (st := s36) l36 c36 k36).binds (ps := ["ewer", "items"]) fun _ _ _ _ _ _ us hl => match us, hl with | [_, _], _ => rfl⟩ : DF K mg d36) (.cons
    (⟨f37, _, fun_mk (st := s37) l37 c37 k37, PySem.W.mg_of X G a37, (fun_mk (st := s37) l37 c37 k37).binds (ps := ["call"]) fun _ _ _ _ _ _ us hl => match us, hl with | [_], _ => rfl⟩ : DF K mg d37) (.cons
    (⟨f38, _, fun_mk (st := s38) l38 c38 k38, PySem.W.mg_of X G a38, (fun_mk (st := s38) l38 c38 k38).binds (ps := ["ewer"]) fun _ _ _ _ _ _ us hl => match us, hl with | [_], _ => rfl⟩ : DF K mg d38) (.cons
    (⟨f39, _, fun_mk (st := s39) l39 c39 k39, PySem.W.mg_of X G a39, (fun_mk (st := s39) l39 c39 k39).binds (ps := ["script"]) fun _ _ _ _ _ _ us hl => match us, hl with | [_], _ => rfl⟩ : DF K mg d39) (.nil)))))))))))))))))))))))))))))))))))))))))
  sc := scs_ok scs
  blt := fun x hx => by
    simp only [txt, List.mem_cons, List.not_mem_nil, or_false] at hx
    rcases hx with rfl | rfl | rfl | rfl | rfl | rfl | rfl | rfl | rfl | rfl | rfl | rfl | rfl | rfl | rfl | rfl
    · exact PySem.W.mg_none_of X G z0
    · exact PySem.W.mg_none_of X G z1
    · exact PySem.W.mg_none_of X G z2
    · exact PySem.W.mg_none_of X G z3
    · exact PySem.W.mg_none_of X G z4
    · exact PySem.W.mg_none_of X G z5
    · exact PySem.W.mg_none_of X G z6
    · exact PySem.W.mg_none_of X G z7
    · exact PySem.W.mg_none_of X G z8
    · exact PySem.W.mg_none_of X G z9
    · exact PySem.W.mg_none_of X G z10
    · exact PySem.W.mg_none_of X G z11
    · exact PySem.W.mg_none_of X G z12
    · exact PySem.W.mg_none_of X G z13
    · exact PySem.W.mg_none_of X G z14
    · exact PySem.W.mg_none_of X G z15
  con := fun x d hx => by
    have e := PySem.mem_of_lookup hx
    simp only [txt, List.mem_cons, List.not_mem_nil, or_false, Prod.mk.injEq] at e
    rcases e with ⟨rfl, rfl⟩ | ⟨rfl, rfl⟩ | ⟨rfl, rfl⟩ | ⟨rfl, rfl⟩ | ⟨rfl, rfl⟩ | ⟨rfl, rfl⟩ | ⟨rfl, rfl⟩ | ⟨rfl, rfl⟩ | ⟨rfl, rfl⟩ | ⟨rfl, rfl⟩ | ⟨rfl, rfl⟩ | ⟨rfl, rfl⟩ | ⟨rfl, rfl⟩ | ⟨rfl, rfl⟩ | ⟨rfl, rfl⟩ | ⟨rfl, rfl⟩ | ⟨rfl, rfl⟩ | ⟨rfl, rfl⟩
    · exact ⟨.int 9, .int 9 tk0, PySem.W.mg_of X G v0, ⟨_, rfl⟩, fun _ _ => .int _⟩
    · exact ⟨.int 7, .int 7 tk1, PySem.W.mg_of X G v1, ⟨_, rfl⟩, fun _ _ => .int _⟩
    · exact ⟨.int 99, .int 99 tk2, PySem.W.mg_of X G v2, ⟨_, rfl⟩, fun _ _ => .int _⟩
    · exact ⟨.int 99, .int 99 tk3, PySem.W.mg_of X G v3, ⟨_, rfl⟩, fun _ _ => .int _⟩
    · exact ⟨.int 999, .int 999 tk4, PySem.W.mg_of X G v4, ⟨_, rfl⟩, fun _ _ => .int _⟩
    · exact ⟨.int 4, .int 4 tk5, PySem.W.mg_of X G v5, ⟨_, rfl⟩, fun _ _ => .int _⟩
    · exact ⟨.ref f22, .ref f22, PySem.W.mg_of X G a22, rfl, fun _ _ => .fn (by rw [hFe]; rfl)⟩
    · exact ⟨.ref f30, .ref f30, PySem.W.mg_of X G a30, rfl, fun _ _ => .fn (by rw [hFe]; rfl)⟩
    · exact ⟨.ref f23, .ref f23, PySem.W.mg_of X G a23, rfl, fun _ _ => .fn (by rw [hFe]; rfl)⟩
    · exact ⟨.ref f25, .ref f25, PySem.W.mg_of X G a25, rfl, fun _ _ => .fn (by rw [hFe]; rfl)⟩
    · exact ⟨.ref f31, .ref f31, PySem.W.mg_of X G a31, rfl, fun _ _ => .fn (by rw [hFe]; rfl)⟩
    · exact ⟨.ref f32, .ref f32, PySem.W.mg_of X G a32, rfl, fun _ _ => .fn (by rw [hFe]; rfl)⟩
    · exact ⟨.ref f24, .ref f24, PySem.W.mg_of X G a24, rfl, fun _ _ => .fn (by rw [hFe]; rfl)⟩
    · exact ⟨.ref f33, .ref f33, PySem.W.mg_of X G a33, rfl, fun _ _ => .fn (by rw [hFe]; rfl)⟩
    · exact ⟨.ref f26, .ref f26, PySem.W.mg_of X G a26, rfl, fun _ _ => .fn (by rw [hFe]; rfl)⟩
    · exact ⟨.ref f27, .ref f27, PySem.W.mg_of X G a27, rfl, fun _ _ => .fn (by rw [hFe]; rfl)⟩
    · exact ⟨.ref f28, .ref f28, PySem.W.mg_of X G a28, rfl, fun _ _ => .fn (by rw [hFe]; rfl)⟩
    · exact ⟨.ref f29, .ref f29, PySem.W.mg_of X G a29, rfl, fun _ _ => .fn (by rw [hFe]; rfl)⟩
  exs := fun x hx => by
    simp only [txt, List.mem_cons, List.not_mem_nil, or_false] at hx
    rcases hx with rfl | rfl
    · exact ⟨E0, ⟨en0, ⟨_, _, _, _, PySem.F.excBase_ValueError, ex0⟩, ek0, eb0, et0⟩, PySem.W.mg_of X G en0⟩
    · exact ⟨E1, ⟨en1, ⟨_, _, _, _, PySem.F.excBase_ValueError, ex1⟩, ek1, eb1, et1⟩, PySem.W.mg_of X G en1⟩
  xvs := fun x n hx => by
    have e := PySem.mem_of_lookup hx
    simp only [txt, List.mem_cons, List.not_mem_nil, or_false, Prod.mk.injEq] at e
    obtain ⟨rfl, rfl⟩ := e
    · exact ⟨E2, { ns := en2, base := ⟨_, _, _, _, PySem.F.excBase_IndexError, PySem.F.store_IndexError, xi2, xo2⟩, dict := xd2, tk := xt2, sa := xs2, keep := ek2, exC := eb2, ty := et2, rd := xfB_ok xr2, fld := xf2, init := ⟨g2, _, xs_2, "InvalidNumber.__init__", "self", "value", ["self", "value"], _, _, _, _, xa2, xb2, fun_mk (st := xs_2) xl2 xc2 xk2, (fun_mk (st := xs_2) xl2 xc2 xk2).binds (ps := ["self", "value"]) fun _ _ _ _ _ _ us hl => match us, hl with | [_, _], _ => rfl, scB_ok (d := xd_2) (by decide +kernel), rfl, rfl, rfl, .inl rfl, .inl rfl, by decide, by decide⟩ }, PySem.W.mg_of X G en2⟩
  vals := fun n f hn => by
    rw [hFe] at hn
    match n, hn with
    | 0, h => exact ⟨d0, rfl, by cases h; exact PySem.W.mg_of X G a0, rfl⟩
    | 1, h => exact ⟨d1, rfl, by cases h; exact PySem.W.mg_of X G a1, rfl⟩
    | 2, h => exact ⟨d2, rfl, by cases h; exact PySem.W.mg_of X G a2, rfl⟩
    | 3, h => exact ⟨d3, rfl, by cases h; exact PySem.W.mg_of X G a3, rfl⟩
    | 4, h => exact ⟨d4, rfl, by cases h; exact PySem.W.mg_of X G a4, rfl⟩
    | 5, h => exact ⟨d5, rfl, by cases h; exact PySem.W.mg_of X G a5, rfl⟩
    | 6, h => exact ⟨d6, rfl, by cases h; exact PySem.W.mg_of X G a6, rfl⟩
    | 7, h => exact ⟨d7, rfl, by cases h; exact PySem.W.mg_of X G a7, rfl⟩
    | 8, h => exact ⟨d8, rfl, by cases h; exact PySem.W.mg_of X G a8, rfl⟩
    | 9, h => exact ⟨d9, rfl, by cases h; exact PySem.W.mg_of X G a9, rfl⟩
    | 10, h => exact ⟨d10, rfl, by cases h; exact PySem.W.mg_of X G a10, rfl⟩
    | 11, h => exact ⟨d11, rfl, by cases h; exact PySem.W.mg_of X G a11, rfl⟩
    | 12, h => exact ⟨d12, rfl, by cases h; exact PySem.W.mg_of X G a12, rfl⟩
    | 13, h => exact ⟨d13, rfl, by cases h; exact PySem.W.mg_of X G a13, rfl⟩
    | 14, h => exact ⟨d14, rfl, by cases h; exact PySem.W.mg_of X G a14, rfl⟩
    | 15, h => exact ⟨d15, rfl, by cases h; exact PySem.W.mg_of X G a15, rfl⟩
    | 16, h => exact ⟨d16, rfl, by cases h; exact PySem.W.mg_of X G a16, rfl⟩
    | 17, h => exact ⟨d17, rfl, by cases h; exact PySem.W.mg_of X G a17, rfl⟩
    | 18, h => exact ⟨d18, rfl, by cases h; exact PySem.W.mg_of X G a18, rfl⟩
    | 19, h => exact ⟨d19, rfl, by cases h; exact PySem.W.mg_of X G a19, rfl⟩
    | 20, h => exact ⟨d20, rfl, by cases h; exact PySem.W.mg_of X G a20, rfl⟩
    | 21, h => exact ⟨d21, rfl, by cases h; exact PySem.W.mg_of X G a21, rfl⟩
    | 22, h => exact ⟨d22, rfl, by cases h; exact PySem.W.mg_of X G a22, rfl⟩
    | 23, h => exact ⟨d23, rfl, by cases h; exact PySem.W.mg_of X G a23, rfl⟩
    | 24, h => exact ⟨d24, rfl, by cases h; exact PySem.W.mg_of X G a24, rfl⟩
    | 25, h => exact ⟨d25, rfl, by cases h; exact PySem.W.mg_of X G a25, rfl⟩
    | 26, h => exact ⟨d26, rfl, by cases h; exact PySem.W.mg_of X G a26, rfl⟩
    | 27, h => exact ⟨d27, rfl, by cases h; exact PySem.W.mg_of X G a27, rfl⟩
    | 28, h => exact ⟨d28, rfl, by cases h; exact PySem.W.mg_of X G a28, rfl⟩
    | 29, h => exact ⟨d29, rfl, by cases h; exact PySem.W.mg_of X G a29, rfl⟩
    | 30, h => exact ⟨d30, rfl, by cases h; exact PySem.W.mg_of X G a30, rfl⟩
    | 31, h => exact ⟨d31, rfl, by cases h; exact PySem.W.mg_of X G a31, rfl⟩
    | 32, h => exact ⟨d32, rfl, by cases h; exact PySem.W.mg_of X G a32, rfl⟩
    | 33, h => exact ⟨d33, rfl, by cases h; exact PySem.W.mg_of X G a33, rfl⟩
    | n + 34, h => simp at h
  mets := fun x mi hx => by
    have e := PySem.mem_of_lookup hx
    simp only [txt, List.mem_cons, List.not_mem_nil, or_false, Prod.mk.injEq] at e
    obtain ⟨rfl, rfl⟩ := e
    · exact ⟨f37, s37, oc37, .none, kV37, dc37, pm37, cd37, ct37, an37, od37, sl37, ["call", "error"], _, _, _, _, _, _, _, _, _, _, _, PySem.W.mg_of X G a37, k37, l37, c37, (fun_mk (st := s37) l37 c37 k37).binds (ps := ["call"]) fun _ _ _ _ _ _ us hl => match us, hl with | [_], _ => rfl, scB_ok (d := d37) (by decide +kernel), rfl, .inl rfl, rfl,
      (.cons (by rfl) (PySem.W.mg_of X G en0) (by decide) (by exact ⟨rfl, rfl, trivial⟩) (by decide) (.cons (by rfl) (PySem.W.mg_of X G en1) (by decide) (by exact ⟨rfl, rfl, trivial⟩) (by decide) (.consN (i := 1) (by rfl) (PySem.W.mg_of X G en2) (by decide) rfl (by rfl) (by decide) (by exact ⟨rfl, rfl, rfl, rfl, trivial⟩) (by decide) .rest))),
      (.cons (fun c b C hb hn => by
        have e := PySem.mem_of_lookup hb
        simp only [List.mem_cons, List.not_mem_nil, or_false, Prod.mk.injEq] at e
        rcases e with ⟨rfl, rfl⟩ | ⟨rfl, rfl⟩ | ⟨rfl, rfl⟩
        · rw [en0] at hn; cases hn; exact em0_0
        · rw [en1] at hn; cases hn; exact em1_0
        · rw [en2] at hn; cases hn; exact em2_0) (fun c C n hb hn hm => by
        simp only [List.mem_cons, List.not_mem_nil, or_false, reduceCtorEq] at hm) (.cons (fun c b C hb hn => by
        have e := PySem.mem_of_lookup hb
        simp only [List.mem_cons, List.not_mem_nil, or_false, Prod.mk.injEq] at e
        rcases e with ⟨rfl, rfl⟩ | ⟨rfl, rfl⟩ | ⟨rfl, rfl⟩
        · rw [en0] at hn; cases hn; exact em0_1
        · rw [en1] at hn; cases hn; exact em1_1
        · rw [en2] at hn; cases hn; exact em2_1) (fun c C n hb hn hm => by
        simp only [List.mem_cons, List.not_mem_nil, or_false, reduceCtorEq] at hm) (.cons (fun c b C hb hn => by
        have e := PySem.mem_of_lookup hb
        simp only [List.mem_cons, List.not_mem_nil, or_false, Prod.mk.injEq] at e
        rcases e with ⟨rfl, rfl⟩ | ⟨rfl, rfl⟩ | ⟨rfl, rfl⟩
        · rw [en0] at hn; cases hn; exact em0_2
        · rw [en1] at hn; cases hn; exact em1_2
        · rw [en2] at hn; cases hn; exact em2_2) (fun c C n hb hn hm => by
        have e := PySem.mem_of_lookup hb
        simp only [List.mem_cons, List.not_mem_nil, or_false, Prod.mk.injEq, Bool.true_eq_false, and_false, false_or, and_true] at e
        subst e
        simp only [List.mem_cons, List.not_mem_nil, or_false, reduceCtorEq, false_or, RtP.fld.injEq] at hm
        subst hm
        rw [en2] at hn
        cases hn
        exact ⟨xfB_ok xr2, xf2⟩) .nil))), by decide, by decide⟩
end K82
open PySem PySem.W PyProof.Rows
set_option maxHeartbeats 0 in
theorem PySem.Challenge.cw_loadwide_k82_errors_of_sums_holds : PySem.Challenge.rw_loadwide_k82_errors_of_sums.Holds := by
  w_on; o_law; k_head; (case hw => w_witness2)
  k_fill
  refine MP.law_headL (l := PySem.Challenge.rw_loadwide_k82_errors_of_sums) (k := 14) (i := 39) (t := K82.txt) (d := K82.d39) (fuel := 0) (x := "script") [("longest_first", 133, 129), ("_law_right", 339, 335)] [98, 103, 110, 115, 122, 127, 134, 139, 144, 149, 154, 161, 168, 173, 178, 183, 188, 195, 202, 209, 214, 221, 228, 235, 242, 249, 256, 263, 270, 277, 284, 291, 298, 305] rfl rfl rfl rfl rfl (fun w h Y => PySem.W.km_in_of Y) ?cF ?cP ?cN ?cC (by decide +kernel) ?cL K82.law_ok (fun _ _ _ _ _ _ _ _ => .of_eq rfl) ⟨rfl, by decide, by decide⟩
  case cP =>
    intro w h Y q hq
    have hT := PySem.W.km_tabs_of Y
    simp only [List.mem_cons, List.not_mem_nil, or_false] at hq
    rcases hq with rfl | rfl <;> exact hT _ (by k_mem)
  case cN =>
    intro w q hq
    simp only [List.mem_cons, List.not_mem_nil, or_false] at hq
    rcases hq with rfl | rfl <;> kernel_rfl
  case cC =>
    intro w q hq
    simp only [List.mem_cons, List.not_mem_nil, or_false] at hq
    rcases hq with rfl | rfl <;> kernel_rfl
  case cL => intro w; kernel_rfl
  case cF =>
    intro w
    letI : MP.TabC := ⟨MP.tabT [("longest_first", 133, 129), ("_law_right", 339, 335)], [98, 103, 110, 115, 122, 127, 134, 139, 144, 149, 154, 161, 168, 173, 178, 183, 188, 195, 202, 209, 214, 221, 228, 235, 242, 249, 256, 263, 270, 277, 284, 291, 298, 305], w⟩
    intro mg h KX G
    refine' K82.all_mk KX G ?a0 ?l0 ?c0 ?k0 ?a1 ?l1 ?c1 ?k1 ?a2 ?l2 ?c2 ?k2 ?a3 ?l3 ?c3 ?k3 ?a4 ?l4 ?c4 ?k4 ?a5 ?l5 ?c5 ?k5 ?a6 ?l6 ?c6 ?k6 ?a7 ?l7 ?c7 ?k7 ?a8 ?l8 ?c8 ?k8 ?a9 ?l9 ?c9 ?k9 ?a10 ?l10 ?c10 ?k10 ?a11 ?l11 ?c11 ?k11 ?a12 ?l12 ?c12 ?k12 ?a13 ?l13 ?c13 ?k13 ?a14 ?l14 ?c14 ?k14 ?a15 ?l15 ?c15 ?k15 ?a16 ?l16 ?c16 ?k16 ?a17 ?l17 ?c17 ?k17 ?a18 ?l18 ?c18 ?k18 ?a19 ?l19 ?c19 ?k19 ?a20 ?l20 ?c20 ?k20 ?a21 ?l21 ?c21 ?k21 ?a22 ?l22 ?c22 ?k22 ?a23 ?l23 ?c23 ?k23 ?a24 ?l24 ?c24 ?k24 ?a25 ?l25 ?c25 ?k25 ?a26 ?l26 ?c26 ?k26 ?a27 ?l27 ?c27 ?k27 ?a28 ?l28 ?c28 ?k28 ?a29 ?l29 ?c29 ?k29 ?a30 ?l30 ?c30 ?k30 ?a31 ?l31 ?c31 ?k31 ?a32 ?l32 ?c32 ?k32 ?a33 ?l33 ?c33 ?k33 ?a34 ?l34 ?c34 ?k34 ?a35 ?l35 ?c35 ?k35 ?a36 ?l36 ?c36 ?k36 ?a37 ?l37 ?c37 ?k37 ?a38 ?l38 ?c38 ?k38 ?a39 ?l39 ?c39 ?k39 ?v0 ?v1 ?v2 ?v3 ?v4 ?v5 ?z0 ?z1 ?z2 ?z3 ?z4 ?z5 ?z6 ?z7 ?z8 ?z9 ?z10 ?z11 ?z12 ?z13 ?z14 ?z15 ?en0 ?en1 ?en2 ?ex0 ?ek0 ?eb0 ?et0 ?ex1 ?ek1 ?eb1 ?et1 ?xi2 ?xo2 ?xd2 ?xt2 ?xs2 ?ek2 ?eb2 ?et2 ?xr2 ?xf2 ?xa2 ?xb2 ?xl2 ?xc2 ?xk2 ?em0_0 ?em1_0 ?em2_0 ?em0_1 ?em1_1 ?em2_1 ?em0_2 ?em1_2 ?em2_2 ?hFe
    (case a0 => k_is); (case l0 => k_is); (case c0 => k_is); (case k0 => k_is); (case a1 => k_is); (case l1 => k_is); (case c1 => k_is); (case k1 => k_is); (case a2 => k_is); (case l2 => k_is); (case c2 => k_is); (case k2 => k_is); (case a3 => k_is); (case l3 => k_is); (case c3 => k_is); (case k3 => k_is); (case a4 => k_is); (case l4 => k_is); (case c4 => k_is); (case k4 => k_is); (case a5 => k_is); (case l5 => k_is); (case c5 => k_is); (case k5 => k_is); (case a6 => k_is); (case l6 => k_is); (case c6 => k_is); (case k6 => k_is); (case a7 => k_is); (case l7 => k_is); (case c7 => k_is); (case k7 => k_is); (case a8 => k_is); (case l8 => k_is); (case c8 => k_is); (case k8 => k_is); (case a9 => k_is); (case l9 => k_is); (case c9 => k_is); (case k9 => k_is); (case a10 => k_is); (case l10 => k_is); (case c10 => k_is); (case k10 => k_is); (case a11 => k_is); (case l11 => k_is); (case c11 => k_is); (case k11 => k_is); (case a12 => k_is); (case l12 => k_is); (case c12 => k_is); (case k12 => k_is); (case a13 => k_is); (case l13 => k_is); (case c13 => k_is); (case k13 => k_is); (case a14 => k_is); (case l14 => k_is); (case c14 => k_is); (case k14 => k_is); (case a15 => k_is); (case l15 => k_is); (case c15 => k_is); (case k15 => k_is); (case a16 => k_is); (case l16 => k_is); (case c16 => k_is); (case k16 => k_is); (case a17 => k_is); (case l17 => k_is); (case c17 => k_is); (case k17 => k_is); (case a18 => k_is); (case l18 => k_is); (case c18 => k_is); (case k18 => k_is); (case a19 => k_is); (case l19 => k_is); (case c19 => k_is); (case k19 => k_is); (case a20 => k_is); (case l20 => k_is); (case c20 => k_is); (case k20 => k_is); (case a21 => k_is); (case l21 => k_is); (case c21 => k_is); (case k21 => k_is); (case a22 => k_is); (case l22 => k_is); (case c22 => k_is); (case k22 => k_is); (case a23 => k_is); (case l23 => k_is); (case c23 => k_is); (case k23 => k_is); (case a24 => k_is); (case l24 => k_is); (case c24 => k_is); (case k24 => k_is); (case a25 => k_is); (case l25 => k_is); (case c25 => k_is); (case k25 => k_is); (case a26 => k_is); (case l26 => k_is); (case c26 => k_is); (case k26 => k_is); (case a27 => k_is); (case l27 => k_is); (case c27 => k_is); (case k27 => k_is); (case a28 => k_is); (case l28 => k_is); (case c28 => k_is); (case k28 => k_is); (case a29 => k_is); (case l29 => k_is); (case c29 => k_is); (case k29 => k_is); (case a30 => k_is); (case l30 => k_is); (case c30 => k_is); (case k30 => k_is); (case a31 => k_is); (case l31 => k_is); (case c31 => k_is); (case k31 => k_is); (case a32 => k_is); (case l32 => k_is); (case c32 => k_is); (case k32 => k_is); (case a33 => k_is); (case l33 => k_is); (case c33 => k_is); (case k33 => k_is); (case a34 => k_is); (case l34 => k_is); (case c34 => k_is); (case k34 => k_is); (case a35 => k_is); (case l35 => k_is); (case c35 => k_is); (case k35 => k_is); (case a36 => k_is); (case l36 => k_is); (case c36 => k_is); (case k36 => k_is); (case a37 => k_is); (case l37 => k_is); (case c37 => k_is); (case k37 => k_is); (case a38 => k_is); (case l38 => k_is); (case c38 => k_is); (case k38 => k_is); (case a39 => k_is); (case l39 => k_is); (case c39 => k_is); (case k39 => k_is); (case v0 => k_is); (case v1 => k_is); (case v2 => k_is); (case v3 => k_is); (case v4 => k_is); (case v5 => k_is); (case z0 => k_is); (case z1 => k_is); (case z2 => k_is); (case z3 => k_is); (case z4 => k_is); (case z5 => k_is); (case z6 => k_is); (case z7 => k_is); (case z8 => k_is); (case z9 => k_is); (case z10 => k_is); (case z11 => k_is); (case z12 => k_is); (case z13 => k_is); (case z14 => k_is); (case z15 => k_is); (case en0 => k_is); (case en1 => k_is); (case en2 => k_is); (case ex0 => k_exc); (case ek0 => k_is); (case eb0 => k_is); (case et0 => k_is); (case ex1 => k_exc); (case ek1 => k_is); (case eb1 => k_is); (case et1 => k_is); (case xi2 => kernel_rfl); (case xo2 => kernel_rfl); (case xd2 => kernel_rfl); (case xt2 => kernel_rfl); (case xs2 => k_is); (case ek2 => k_is); (case eb2 => k_is); (case et2 => k_is); (case xr2 => kernel_rfl); (case xf2 => k_is); (case xa2 => k_is); (case xb2 => k_is); (case xl2 => k_is); (case xc2 => k_is); (case xk2 => k_is); (case em0_0 => kernel_rfl); (case em1_0 => kernel_rfl); (case em2_0 => kernel_rfl); (case em0_1 => kernel_rfl); (case em1_1 => kernel_rfl); (case em2_1 => kernel_rfl); (case em0_2 => kernel_rfl); (case em1_2 => kernel_rfl); (case em2_2 => kernel_rfl); (case hFe => rfl)
