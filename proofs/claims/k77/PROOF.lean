import PyProof.Rows.All
import Wide.All
import OpenK.AllK
import Wide.FinOn
import HandS.ForMost
import HandS.ForExc
import HandS.TryMany
import HandS.ExcInit
import HandS.ExcField
import HandS.IsInst
import HandS.SortInts
import HandS.Conv
import HandS.TupAny
import HandS.TupMul
import HandS.SetFor
import HandS.Zip
import HandS.Deep
import HandS.Wide
import HandS.Flow
import HandS.TupLe
import HandS.More
import HandS.Lambda
import KE.SortKeyHeap
import KE.KRevSl
import HandS.WordsExc
import KE.GoesMore
import HandS.ExcOwn
import HandS.Sort
import HandS.EndTab
import KE.KNestM
import PySem.Challenge.RW_loadwide_k77_whole_sums_on_hands
set_option Elab.async false
set_option linter.all false
set_option autoImplicit false
set_option maxRecDepth 100000
set_option maxHeartbeats 4000000
/-! MiniPy 1: data, the small language, its meaning. -/
namespace MP
open PySem

/-! ### data: by value; a changing object by its place in the small heap -/
inductive D where
  | non | bl (b : Bool) | int (i : Int) | str (x : Str) | ty (n : String)
  | tup (l : List D) | lst (l : List D) | scr (l : List D) | dct (l : List (D × D)) | ref (n : Nat)
  deriving Inhabited

mutual
def bq : D → D → Bool
  | .non, .non => true
  | .bl a, .bl b => a == b
  | .int a, .int b => a == b
  | .str a, .str b => decide (a = b)
  | .ty a, .ty b => a == b
  | .tup a, .tup b => bqs a b
  | .lst a, .lst b => bqs a b
  | .scr a, .scr b => bqs a b
  | .dct a, .dct b => bqd a b
  | .ref a, .ref b => a == b
  | _, _ => false
def bqs : List D → List D → Bool
  | [], [] => true
  | a :: r, b :: s => bq a b && bqs r s
  | _, _ => false
def bqd : List (D × D) → List (D × D) → Bool
  | [], [] => true
  | (a, c) :: r, (b, d) :: s => bq a b && (bq c d && bqd r s)
  | _, _ => false
end
mutual
theorem bq_eq : ∀ {a b : D}, bq a b = true → a = b
  | .non, b, h => by cases b <;> simp [bq] at h <;> rfl
  | .bl a, b, h => by cases b <;> simp [bq] at h; rw [h]
  | .int a, b, h => by cases b <;> simp [bq] at h; rw [h]
  | .str a, b, h => by cases b <;> simp [bq] at h; rw [h]
  | .ty a, b, h => by cases b <;> simp [bq] at h; rw [h]
  | .tup a, b, h => by cases b <;> simp [bq] at h; rw [bqs_eq h]
  | .lst a, b, h => by cases b <;> simp [bq] at h; rw [bqs_eq h]
  | .scr a, b, h => by cases b <;> simp [bq] at h; rw [bqs_eq h]
  | .dct a, b, h => by cases b <;> simp [bq] at h; rw [bqd_eq h]
  | .ref a, b, h => by cases b <;> simp [bq] at h; rw [h]
theorem bqs_eq : ∀ {a b : List D}, bqs a b = true → a = b
  | [], b, h => by cases b <;> simp [bqs] at h; rfl
  | a :: r, b, h => by
    cases b with
    | nil => simp [bqs] at h
    | cons b s =>
      simp [bqs] at h
      rw [bq_eq h.1, bqs_eq h.2]
theorem bqd_eq : ∀ {a b : List (D × D)}, bqd a b = true → a = b
  | [], b, h => by cases b <;> simp [bqd] at h; rfl
  | (a, c) :: r, b, h => by
    cases b with
    | nil => simp [bqd] at h
    | cons b s =>
      obtain ⟨b, d⟩ := b
      simp [bqd] at h
      rw [bq_eq h.1, bq_eq h.2.1, bqd_eq h.2.2]
end
mutual
theorem bq_self : ∀ a : D, bq a a = true
  | .non => by simp [bq]
  | .bl _ => by simp [bq]
  | .int _ => by simp [bq]
  | .str _ => by simp [bq]
  | .ty _ => by simp [bq]
  | .tup l => by simp [bq, bqs_self l]
  | .lst l => by simp [bq, bqs_self l]
  | .scr l => by simp [bq, bqs_self l]
  | .dct l => by simp [bq, bqd_self l]
  | .ref _ => by simp [bq]
theorem bqs_self : ∀ a : List D, bqs a a = true
  | [] => by simp [bqs]
  | a :: r => by simp [bqs, bq_self a, bqs_self r]
theorem bqd_self : ∀ a : List (D × D), bqd a a = true
  | [] => by simp [bqd]
  | (a, b) :: r => by simp [bqd, bq_self a, bq_self b, bqd_self r]
end

/-! all places are below b -/
mutual
def bel (b : Nat) : D → Bool
  | .tup l => bels b l
  | .lst l => bels b l
  | .scr l => bels b l
  | .dct l => beld b l
  | .ref n => decide (n < b)
  | .non => true | .bl _ => true | .int _ => true | .str _ => true | .ty _ => true
def bels (b : Nat) : List D → Bool
  | [] => true
  | d :: r => bel b d && bels b r
def beld (b : Nat) : List (D × D) → Bool
  | [] => true
  | (k, v) :: r => bel b k && (bel b v && beld b r)
end
/-! places turned by f -/
mutual
def sub (f : Nat → Option D) : D → Option D
  | .tup l => (subs f l).map .tup
  | .lst l => (subs f l).map .lst
  | .scr l => (subs f l).map .scr
  | .dct l => (subd f l).map .dct
  | .ref n => f n
  | .non => some .non | .bl b => some (.bl b) | .int i => some (.int i) | .str x => some (.str x) | .ty n => some (.ty n)
def subs (f : Nat → Option D) : List D → Option (List D)
  | [] => some []
  | d :: r => (sub f d).bind fun d' => (subs f r).map fun r' => d' :: r'
def subd (f : Nat → Option D) : List (D × D) → Option (List (D × D))
  | [] => some []
  | (k, v) :: r => (sub f k).bind fun k' => (sub f v).bind fun v' => (subd f r).map fun r' => (k', v') :: r'
end
/-- no place at all -/
abbrev clo (d : D) : Bool := bel 0 d
/-- the new objects (from b on) frozen -/
def gf (M : List D) (b : Nat) : Nat → Nat → Option D
  | 0 => fun k => if k < b then some (.ref k) else none
  | n + 1 => fun k => if k < b then some (.ref k) else (M[k]?).bind (sub (gf M b n))
def frz (M : List D) (b n : Nat) (d : D) : Option D := sub (gf M b n) d
/-- an object's content -/
def cont (M : List D) : D → Option D
  | .ref n => M[n]?
  | d => some d

/-! ### results -/
inductive R (α : Type) where
  | ok (a : α) (M : List D)
  | exc (c : Str) (e : D) (M : List D)
  | bad
def R.bind {α β : Type} (r : R α) (f : α → List D → R β) : R β := match r with
  | .ok a M => f a M
  | .exc c e M => .exc c e M
  | .bad => .bad
/-- no exception may leave -/
def R.nx {α : Type} (r : R α) : R α := match r with
  | .ok a M => .ok a M
  | _ => .bad
def ofO {α : Type} (o : Option α) (M : List D) : R α := match o with
  | some a => .ok a M
  | none => .bad
@[simp] theorem R.bind_ok {α β : Type} (a : α) (M : List D) (f : α → List D → R β) : (R.ok a M).bind f = f a M := rfl
@[simp] theorem R.bind_exc {α β : Type} (c : Str) (e : D) (M : List D) (f : α → List D → R β) : (R.exc c e M).bind f = .exc c e M := rfl
@[simp] theorem R.bind_bad {α β : Type} (f : α → List D → R β) : (R.bad).bind f = .bad := rfl
@[simp] theorem R.nx_ok {α : Type} (a : α) (M : List D) : (R.ok a M).nx = .ok a M := rfl
@[simp] theorem ofO_some {α : Type} (a : α) (M : List D) : ofO (some a) M = .ok a M := rfl
@[simp] theorem ofO_none {α : Type} (M : List D) : (ofO none M : R α) = .bad := rfl

abbrev Lo := List (Option D)
/-- the longest list -/
abbrev lim : Nat := sizeLine

/-! ### operations by values -/
inductive Bop where | add | sub | mul | fdiv | mod | pow deriving DecidableEq
inductive Cop where | eq | ne | lt | le | gt | ge | inn | nin | isx | isn deriving DecidableEq

def okMul (i j : Int) : Bool := (decide (-(2 ^ 64) < i) && decide (i < 2 ^ 64)) || (decide (-(2 ^ 64) < j) && decide (j < 2 ^ 64))
def intS : Bop → Int → Int → Option Int
  | .add, i, j => some (i + j)
  | .sub, i, j => some (i - j)
  | .mul, i, j => if okMul i j then some (i * j) else none
  | .fdiv, i, j => if j ≠ 0 ∧ j.natAbs < 1073741824 then some (i.fdiv j) else none
  | .mod, i, j => if j ≠ 0 then some (i.fmod j) else none
  | .pow, i, j => if 0 ≤ j ∧ (Builtin.Int.intBits i : Int) * j ≤ 2 ^ 27 then some (i ^ j.toNat) else none
def binS (M : List D) (o : Bop) (x y : D) : Option D :=
  match x, y with
  | .int i, .int j => (intS o i j).map .int
  | .tup a, .tup b => if o = .add ∧ a.length + b.length ≤ lim then some (.tup (a ++ b)) else none
  | .tup a, .int k => if o = .mul ∧ a ≠ [] ∧ 1 ≤ k ∧ k ≤ 1000 ∧ a.length ≤ 1000 then some (.tup (List.replicate k.toNat a).flatten) else none
  | x, y => match cont M x, cont M y with
    | some (.lst a), some (.lst b) => if o = .add ∧ a.length + b.length ≤ lim then some (.lst (a ++ b)) else none
    | _, _ => none


/-! ### comparisons -/
mutual
def toPD : D → Option PyData
  | .non => some .none
  | .bl b => some (.bool b)
  | .int i => some (.int i)
  | .str x => some (.str x)
  | .tup l => (toPDs l).map .tuple
  | .lst l => (toPDs l).map .list
  | .scr _ => none | .dct _ => none | .ref _ => none | .ty _ => none
def toPDs : List D → Option (List PyData)
  | [] => some []
  | d :: r => (toPD d).bind fun d' => (toPDs r).map fun r' => d' :: r'
end
/-- == of data: the places are looked up -/
def eqS (M : List D) (x y : D) : Option Bool :=
  match (frz M 0 6 x).bind toPD, (frz M 0 6 y).bind toPD with
  | some a, some b => if SeqAt.shaped a && SeqAt.shaped b then some (PyData.eqv a b) else none
  | _, _ => none
def flat : D → Bool
  | .non => true | .bl _ => true | .int _ => true | .str _ => true
  | _ => false
def eqFl : D → D → Bool
  | .non, .non => true
  | .bl a, .bl b => a == b
  | .bl a, .int b => (if a then 1 else 0) == b
  | .int a, .bl b => a == (if b then 1 else 0)
  | .int a, .int b => a == b
  | .str a, .str b => a == b
  | _, _ => false
def allInts : List D → Option (List Int)
  | [] => some []
  | .int i :: r => (allInts r).map fun r' => i :: r'
  | _ => none
def allBls : List D → Option (List Bool)
  | [] => some []
  | .bl i :: r => (allBls r).map fun r' => i :: r'
  | _ => none
def twoI (p : Int → Int → Bool) : D → D → Option Bool
  | .int i, .int j => some (p i j)
  | _, _ => none
def inS (M : List D) (neg : Bool) (x y : D) : Option Bool :=
  match cont M y with
  | some (.tup l) => if flat x && l.all flat then some (neg != l.any fun z => eqFl z x) else none
  | some (.lst l) => if flat x && l.all flat then some (neg != l.any fun z => eqFl z x) else none
  | _ => none
def isS : D → D → Option Bool
  | .bl a, .bl b => some (decide (a = b))
  | .ty a, .ty b => some (decide (a = b))
  | x, .non => some (match x with | .non => true | _ => false)
  | _, _ => none
def cmpS (M : List D) (o : Cop) (x y : D) : Option Bool :=
  match o with
  | .eq => eqS M x y
  | .ne => (eqS M x y).map not
  | .lt => twoI (fun i j => decide (i < j)) x y
  | .le => twoI (fun i j => decide (i ≤ j)) x y
  | .gt => twoI (fun i j => decide (j < i)) x y
  | .ge => twoI (fun i j => decide (j ≤ i)) x y
  | .inn => inS M false x y
  | .nin => inS M true x y
  | .isx => isS x y
  | .isn => (isS x y).map not
def truth (M : List D) (x : D) : Option Bool :=
  match cont M x with
  | some .non => some false
  | some (.bl b) => some b
  | some (.int i) => some (i != 0)
  | some (.tup l) => some (!l.isEmpty)
  | some (.lst l) => some (!l.isEmpty)
  | some (.scr l) => some (!l.isEmpty)
  | _ => none

/-! ### subscripts, slices -/
def idxS (M : List D) (x y : D) : Option D :=
  match cont M x, y with
  | some (.tup l), .int i => L2.atI l i
  | some (.lst l), .int i => L2.atI l i
  | some (.scr l), .int i => L2.atI l i
  | _, _ => none
/-- a part of a slice: nothing, or an int -/
def cutD (l : List D) (lo hi : Option Int) : List D := (l.drop (HT.sIx l.length 0 lo)).take (HT.sIx l.length l.length hi - HT.sIx l.length 0 lo)
def slcS (M : List D) (x : D) (lo hi : Option Int) : Option D :=
  match cont M x with
  | some (.tup l) => some (.tup (cutD l lo hi))
  | some (.lst l) => some (.lst (cutD l lo hi))
  | some (.scr l) => some (.lst (cutD l lo hi))
  | _ => none
/-- x[::-1] -/
def revS (M : List D) (x : D) : Option D :=
  match cont M x with
  | some (.tup l) => some (.tup l.reverse)
  | some (.lst l) => some (.lst l.reverse)
  | _ => none
def setS (M : List D) (o i v : D) : Option (List D) :=
  match o, i with
  | .ref n, .int k => match M[n]? with
    | some (.lst l) => (L2.ixN l.length k).map fun j => M.set n (.lst (l.set j v))
    | _ => none
  | _, _ => none

/-! ### built-in functions and methods -/
inductive Blt where | len | abs | int | max | min | sum | all | any | isinst | repr | tuple deriving DecidableEq
inductive Mth where | append | extend | count | index | insert deriving DecidableEq

def lenS (M : List D) (x : D) : Option Int :=
  match cont M x with
  | some (.tup l) => some l.length
  | some (.lst l) => some l.length
  | some (.scr l) => some l.length
  | some (.str x) => if x.length ≤ lim then some x.length else none
  | _ => none
def tyS (M : List D) (x : D) : Option String :=
  match cont M x with
  | some .non => some "NoneType"
  | some (.bl _) => some "bool"
  | some (.int _) => some "int"
  | some (.str _) => some "str"
  | some (.tup _) => some "tuple"
  | some (.lst _) => some "list"
  | some (.scr _) => none
  | some (.dct _) => some "dict"
  | _ => none
def isiS (a b : String) : Option Bool :=
  if a = b then some true else
  if b = "int" ∧ a = "bool" then some true else
  if b = "int" ∨ b = "bool" ∨ b = "tuple" ∨ b = "list" ∨ b = "dict" ∨ b = "str" then some false else none
def leastI : Int → List Int → Int
  | m, [] => m
  | m, x :: r => leastI (if x < m then x else m) r
def mostI : Int → List Int → Int
  | m, [] => m
  | m, x :: r => mostI (if x > m then x else m) r
def lstOf (M : List D) (x : D) : Option (List D) :=
  match cont M x with
  | some (.lst l) => some l
  | _ => none
def bltS (M : List D) (b : Blt) (vs : List D) : Option D :=
  match b, vs with
  | .len, [x] => (lenS M x).map .int
  | .abs, [.int i] => some (.int (if i < 0 then -i else i))
  | .int, [.int i] => some (.int i)
  | .int, [.bl b] => some (.int (if b then 1 else 0))
  | .max, [.int i, .int j] => some (.int (if j > i then j else i))
  | .min, [.int i, .int j] => some (.int (if j < i then j else i))
  | .max, [x] => ((lstOf M x).bind allInts).bind fun l => match l with | [] => none | i :: r => some (.int (mostI i r))
  | .min, [x] => ((lstOf M x).bind allInts).bind fun l => match l with | [] => none | i :: r => some (.int (leastI i r))
  | .sum, [x] => ((lstOf M x).bind allInts).map fun l => .int l.sum
  | .all, [x] => ((lstOf M x).bind allBls).map fun l => .bl (l.all id)
  | .any, [x] => ((lstOf M x).bind allBls).map fun l => .bl (l.any id)
  | .isinst, [x, .ty n] => (tyS M x).bind fun t => (isiS t n).map .bl
  | .repr, [.bl b] => some (.str (if b then "True" else "False"))
  | .tuple, [.tup l] => some (.tup l)
  | .tuple, [x] => (lstOf M x).map .tup
  | _, _ => none
def idxOf (k : Int) : List Int → Option Nat
  | [] => none
  | x :: r => if x = k then some 0 else (idxOf k r).map (· + 1)
def mthS (M : List D) (m : Mth) (x : D) (vs : List D) : Option (D × List D) :=
  match m, x, vs with
  | .append, .ref n, [v] => match M[n]? with
    | some (.lst l) => if l.length < lim then some (.non, M.set n (.lst (l ++ [v]))) else none
    | _ => none
  | .extend, .ref n, [.lst v] => match M[n]? with
    | some (.lst l) => if l.length + v.length ≤ lim then some (.non, M.set n (.lst (l ++ v))) else none
    | _ => none
  | .count, x, [.int k] => ((lstOf M x).bind allInts).map fun l => (.int (l.count k : Nat), M)
  | .index, x, [.int k] => ((lstOf M x).bind allInts).bind fun l => (idxOf k l).map fun j => (.int (j : Nat), M)
  | .insert, .ref n, [.int i, v] => match M[n]? with
    | some (.lst l) => if l.length < lim ∧ 0 ≤ i ∧ i < 2 ^ 63 then some (.non, M.set n (.lst (l.take i.toNat ++ [v] ++ l.drop i.toNat))) else none
    | _ => none
  | _, _, _ => none
def mthK (M : List D) (x : D) : Bool := match cont M x with | some (.lst _) => true | _ => false
def sortI (l : List Int) : List Int := l.mergeSort
/-! items sorted by keys -/
def tupNE : PyData → Bool | .tuple (_ :: _) => true | _ => false
def notTN : PyData → Bool | .tuple _ => false | .none => false | _ => true
def keysOk (kz : List PyData) : Bool := (kz.all fun d => kz.all fun d' => PySem.W.alike d d') && ((kz.all tupNE || kz.all notTN) && kz.all fun d => decide (d.depth ≤ 50))
def sortBy (ds : List D) (kz : List PyData) : List D := ((ds.zip kz).mergeSort (PySem.W.dataLe false Prod.snd)).map Prod.fst
def sortD (ds ks : List D) : Option D := (toPDs ks).bind fun kz => if keysOk kz && (decide (ds.length = kz.length) && decide (ds.length ≤ lim)) then some (.lst (sortBy ds kz)) else none

/-! ### the language -/
/-- a clause: does it take an exception of the class c; what it answers -/
structure HdR where
  xm : List (Str × Bool)
  ret : List Str
inductive Tg where
  | name (i : Nat)
  | tup (is : List Nat)
mutual
inductive E where
  | var (i : Nat) | lit (d : D)
  | bin (o : Bop) (a b : E) | neg (a : E)
  | cmp (o : Cop) (a b : E) | chain (o o' : Cop) (a b c : E)
  | isN (neg : Bool) (a : E)
  | andE (a b : E) | orE (a b : E) | notE (a : E) | ite (c a b : E) | tru (a : E) | bad | met (tag : Str) (hs : List HdR) (body : E)
  | tup (es : Es) | new (fr : Bool) (n : N)
  | call (f : Nat) (es : Es) | blt (b : Blt) (es : Es) | mth (m : Mth) (o : E) (es : Es)
  | idx (a b : E) | slc (a : E) (lo hi : Es) | rev (a : E)
inductive Es where
  | nil | cons (e : E) (es : Es)
/-- what makes a new object -/
inductive N where
  | disp (es : Es)
  | comp (own : List Nat) (elt : E) (tg : Tg) (it : I) (cs : Es)
  | comp2 (own own1 : List Nat) (elt : E) (tg : Tg) (it : I) (cs : Es) (tg1 : Tg) (it1 : I) (cs1 : Es)
  | listOf (a : E)
  | listRg (a b : E)
  | sorted (a : E)
  | sortK (it : I) (p : Nat) (body : E)
  | dict0
/-- what is walked -/
inductive I where
  | seq (e : E) | range (a b : E) | enum (e : E) | zip (a b : E)
end
mutual
inductive S where
  | asg (t : Tg) (e : E) | aug (i : Nat) (o : Bop) (e : E) | setI (o i e : E)
  | ex (e : E) | ret (e : E) | ite (c : E) (a b : Ss) | «for» (t : Tg) (it : I) (b : Ss) | whil (c : E) (b : Ss)
  | pass | brk | cont | raise (c : Str) (es : Es) | bad
inductive Ss where
  | nil | cons (s : S) (ss : Ss)
end
def wipe (L : Lo) : List Nat → Lo
  | [] => L
  | v :: vs => (wipe L vs).set v none
def asgs : List Nat → List D → Lo → Option Lo
  | [], [], L => some L
  | i :: is, d :: ds, L => asgs is ds (L.set i (some d))
  | _, _, _ => none
def asg (t : Tg) (d : D) (L : Lo) : Option Lo := match t with
  | .name i => some (L.set i (some d))
  | .tup is => match d with | .tup l => asgs is l L | _ => none
structure Cl where
  call : Nat → List D → List D → R D
  fuel : Nat
  low : Nat → List D → List D → R D
  hi : Bool
def metH : List HdR → Str → Option (List Str)
  | [], _ => none
  | h :: r, c => match h.xm.lookup c with
    | some true => some h.ret
    | some false => metH r c
    | none => none
def metR (tag : Str) (hs : List HdR) : R D → R D
  | .ok d M => .ok (.tup [.str tag, d]) M
  | .exc c _ M => match metH hs c with | some rs => .ok (.tup (rs.map .str)) M | none => .bad
  | .bad => .bad
def Cl.lower (cl : Cl) : Cl := ⟨cl.low, cl.fuel, fun _ _ _ => .bad, false⟩
/-- what is walked: the items, and the place whose list must stand meanwhile -/
structure Wk where
  items : List D
  src : Option Nat
def Wk.ok (w : Wk) (M : List D) : Bool := match w.src with
  | none => true
  | some n => match M[n]? with | some (.lst l) => bqs l w.items | _ => false
def seqS (M : List D) (x : D) : Option Wk := match x with
  | .tup l => some ⟨l, none⟩
  | .lst l => some ⟨l, none⟩
  | .scr l => some ⟨l, none⟩
  | .ref n => match M[n]? with | some (.lst l) => some ⟨l, some n⟩ | _ => none
  | _ => none
def rgL (a b : Int) : List D := (List.range (b - a).toNat).map fun i => .int (a + (i : Nat))
def rgOk (a b : Int) : Bool := decide (-(2 ^ 62) ≤ a) && (decide (a < 2 ^ 62) && (decide (-(2 ^ 62) ≤ b) && decide (b < 2 ^ 62)))
def enumL : Int → List D → List D
  | _, [] => []
  | i, d :: r => .tup [.int i, d] :: enumL (i + 1) r
def zipL : List D → List D → List D
  | a :: r, b :: s => .tup [a, b] :: zipL r s
  | _, _ => []
def compL (w : Wk) (tg : Tg) (L : Lo) (cnd : Lo → List D → R D) (elt : Lo → List D → R D) : List D → List D → R (List D)
  | [], M => if w.ok M then .ok [] M else .bad
  | x :: r, M => if w.ok M then
      match asg tg x L with
      | none => .bad
      | some L1 => (cnd L1 M).bind fun x M1 => (ofO (truth M1 x) M1).bind fun b M1 => if b then (elt L1 M1).bind fun y M2 => (compL w tg L cnd elt r M2).bind fun ys M3 => .ok (y :: ys) M3 else compL w tg L cnd elt r M1
    else .bad
/-- the keys of items -/
def mapE (f : Lo → List D → R D) (p : Nat) (L : Lo) : List D → List D → R (List D)
  | [], M => .ok [] M
  | x :: r, M => (f (L.set p (some x)) M).bind fun k M1 => (mapE f p L r M1).bind fun ks M2 => .ok (k :: ks) M2
/-- two `for`: the inner one makes a list for each turn of the outer one -/
def compL2 (w : Wk) (tg : Tg) (L : Lo) (cnd : Lo → List D → R D) (inner : Lo → List D → R (List D)) : List D → List D → R (List D)
  | [], M => if w.ok M then .ok [] M else .bad
  | x :: r, M => if w.ok M then
      match asg tg x L with
      | none => .bad
      | some L1 => (cnd L1 M).bind fun x M1 => (ofO (truth M1 x) M1).bind fun b M1 => if b then (inner L1 M1).bind fun ys M2 => (compL2 w tg L cnd inner r M2).bind fun zs M3 => .ok (ys ++ zs) M3 else compL2 w tg L cnd inner r M1
    else .bad
mutual
def evE (cl : Cl) : E → Lo → List D → R D
  | .var i, L, M => match L[i]? with | some (some d) => .ok d M | _ => .bad
  | .lit d, _, M => .ok d M
  | .bin o a b, L, M => (evE cl a L M).bind fun x M1 => (evE cl b L M1).bind fun y M2 => ofO (binS M2 o x y) M2
  | .neg a, L, M => (evE cl a L M).bind fun x M1 => match x with | .int i => .ok (.int (-i)) M1 | _ => .bad
  | .cmp o a b, L, M => (evE cl a L M).bind fun x M1 => (evE cl b L M1).bind fun y M2 => ofO ((cmpS M2 o x y).map .bl) M2
  | .chain o o' a b c, L, M => (evE cl a L M).bind fun x M1 => (evE cl b L M1).bind fun y M2 => (ofO (cmpS M2 o x y) M2).bind fun k M2 =>
      if k then (evE cl c L M2).bind fun z M3 => ofO ((cmpS M3 o' y z).map .bl) M3 else .ok (.bl false) M2
  | .isN neg a, L, M => (evE cl a L M).bind fun x M1 => .ok (.bl (neg != (match x with | .non => true | _ => false))) M1
  | .andE a b, L, M => (evE cl a L M).bind fun x M1 => match x with | .bl true => evE cl b L M1 | .bl false => .ok (.bl false) M1 | _ => .bad
  | .orE a b, L, M => (evE cl a L M).bind fun x M1 => match x with | .bl false => evE cl b L M1 | .bl true => .ok (.bl true) M1 | _ => .bad
  | .notE a, L, M => (evE cl a L M).bind fun x M1 => match x with | .bl b => .ok (.bl (!b)) M1 | _ => .bad
  | .ite c a b, L, M => (evE cl c L M).bind fun x M1 => (ofO (truth M1 x) M1).bind fun k M1 => if k then evE cl a L M1 else evE cl b L M1
  | .bad, _, _ => .bad
  | .met tag hs b, L, M => if cl.hi then metR tag hs (evE cl.lower b L M) else .bad
  | .tru a, L, M => (evE cl a L M).bind fun x M1 => (ofO (truth M1 x) M1).bind fun k M1 => .ok (.bl k) M1
  | .tup es, L, M => (evEs cl es L M).bind fun vs M1 => if vs.length ≤ lim then .ok (.tup vs) M1 else .bad
  | .new fr n, L, M => (evN cl n L M).bind fun d M1 => if fr then .ok d M1 else .ok (.ref M1.length) (M1 ++ [d])
  | .call f es, L, M => (evEs cl es L M).bind fun vs M1 => cl.call f vs M1
  | .blt b es, L, M => (evEs cl es L M).bind fun vs M1 => ofO (bltS M1 b vs) M1
  | .mth m o es, L, M => (evE cl o L M).bind fun x M1 => if mthK M1 x then (evEs cl es L M1).bind fun vs M2 => (match mthS M2 m x vs with | some (d, M3) => .ok d M3 | none => .bad) else .bad
  | .idx a b, L, M => (evE cl a L M).bind fun x M1 => (evE cl b L M1).bind fun y M2 => ofO (idxS M2 x y) M2
  | .slc a lo hi, L, M => (evE cl a L M).bind fun x M1 => (evP cl lo L M1).bind fun u M2 => (evP cl hi L M2).bind fun v M3 => ofO (slcS M3 x u v) M3
  | .rev a, L, M => (evE cl a L M).bind fun x M1 => ofO (revS M1 x) M1
def evP (cl : Cl) : Es → Lo → List D → R (Option Int)
  | .nil, _, M => .ok none M
  | .cons e _, L, M => (evE cl e L M).bind fun d M1 => match d with | .int i => .ok (some i) M1 | _ => .bad
def evEs (cl : Cl) : Es → Lo → List D → R (List D)
  | .nil, _, M => .ok [] M
  | .cons e es, L, M => (evE cl e L M).bind fun v M1 => (evEs cl es L M1).bind fun vs M2 => .ok (v :: vs) M2
def evC (cl : Cl) : Es → Lo → List D → R D
  | .nil, _, M => .ok (.bl true) M
  | .cons e _, L, M => evE cl e L M
def evN (cl : Cl) : N → Lo → List D → R D
  | .disp es, L, M => (evEs cl es L M).bind fun vs M1 => if vs.length ≤ lim then .ok (.lst vs) M1 else .bad
  | .comp own elt tg it cs, L, M => (evI cl it L M).bind fun w M1 =>
      if w.items.length ≤ lim then ((compL w tg (wipe L own) (evC cl cs) (evE cl elt) w.items M1).nx).bind fun vs M2 => .ok (.lst vs) M2 else .bad
  | .comp2 own own1 elt tg it cs tg1 it1 cs1, L, M => (evI cl it L M).bind fun w M1 =>
      ((compL2 w tg (wipe L own) (evC cl cs) (fun L1 M => (evI cl it1 L1 M).bind fun w1 M1 => (compL w1 tg1 (wipe L1 own1) (evC cl cs1) (evE cl elt) w1.items M1)) w.items M1).nx).bind fun vs M2 => if vs.length ≤ lim then .ok (.lst vs) M2 else .bad
  | .listOf a, L, M => (evE cl a L M).bind fun x M1 => match cont M1 x with | some (.lst l) => .ok (.lst l) M1 | some (.tup l) => .ok (.lst l) M1 | some (.scr l) => .ok (.lst l) M1 | _ => .bad
  | .listRg a b, L, M => (evE cl a L M).bind fun x M1 => (evE cl b L M1).bind fun y M2 => match x, y with | .int i, .int j => if rgOk i j && decide ((j - i).toNat ≤ 2 ^ 24) then .ok (.lst (rgL i j)) M2 else .bad | _, _ => .bad
  | .sorted a, L, M => (evE cl a L M).bind fun x M1 => match cont M1 x with
      | some (.lst l) => ofO ((allInts l).map fun ns => .lst ((sortI ns).map .int)) M1
      | some (.tup l) => ofO ((allInts l).map fun ns => .lst ((sortI ns).map .int)) M1
      | _ => .bad
  | .sortK it p body, L, M => (evI cl it L M).bind fun w M1 => if cl.hi then (if w.items.length ≤ lim then ((mapE (evE cl.lower body) p L w.items M1).nx).bind fun ks M2 => ofO (sortD w.items ks) M2 else .bad) else .bad
  | .dict0, _, M => .ok (.dct []) M
def evI (cl : Cl) : I → Lo → List D → R Wk
  | .seq e, L, M => (evE cl e L M).bind fun x M1 => ofO (seqS M1 x) M1
  | .range a b, L, M => (evE cl a L M).bind fun x M1 => (evE cl b L M1).bind fun y M2 => match x, y with | .int i, .int j => if rgOk i j then .ok ⟨rgL i j, none⟩ M2 else .bad | _, _ => .bad
  | .enum e, L, M => (evE cl e L M).bind fun x M1 => match x with | .tup l => .ok ⟨enumL 0 l, none⟩ M1 | .lst l => .ok ⟨enumL 0 l, none⟩ M1 | _ => .bad
  | .zip a b, L, M => (evE cl a L M).bind fun x M1 => (evE cl b L M1).bind fun y M2 => match x, y with | .tup l, .tup r => .ok ⟨zipL l r, none⟩ M2 | .lst l, .lst r => .ok ⟨zipL l r, none⟩ M2 | _, _ => .bad
end

/-! ### statements -/
inductive RS where
  | next (L : Lo) (M : List D) | ret (d : D) (M : List D) | brk (L : Lo) (M : List D) | cont (L : Lo) (M : List D)
  | exc (c : Str) (e : D) (L : Lo) (M : List D) | bad
def RS.seq (r : RS) (f : Lo → List D → RS) : RS := match r with
  | .next L M => f L M
  | r => r
def R.then (L : Lo) {α : Type} (r : R α) (f : α → List D → RS) : RS := match r with
  | .ok a M => f a M
  | .exc c e M => .exc c e L M
  | .bad => .bad
@[simp] theorem RS.seq_next (L : Lo) (M : List D) (f : Lo → List D → RS) : (RS.next L M).seq f = f L M := rfl
@[simp] theorem RS.seq_ret (d : D) (M : List D) (f : Lo → List D → RS) : (RS.ret d M).seq f = .ret d M := rfl
@[simp] theorem R.then_ok {α : Type} (L : Lo) (a : α) (M : List D) (f : α → List D → RS) : (R.ok a M).then L f = f a M := rfl
def forL (w : Wk) (tg : Tg) (body : Lo → List D → RS) : List D → Lo → List D → RS
  | [], L, M => if w.ok M then .next L M else .bad
  | x :: r, L, M => if w.ok M then
      match asg tg x L with
      | none => .bad
      | some L1 => match body L1 M with
        | .next L2 M2 => forL w tg body r L2 M2
        | .cont L2 M2 => forL w tg body r L2 M2
        | .brk L2 M2 => .next L2 M2
        | .ret d M2 => .ret d M2
        | .exc c e L2 M2 => .exc c e L2 M2
        | .bad => .bad
    else .bad
def whileL (c : Lo → List D → R D) (body : Lo → List D → RS) : Nat → Lo → List D → RS
  | 0, _, _ => .bad
  | n + 1, L, M => (c L M).then L fun x M1 => (ofO (truth M1 x) M1).then L fun k M1 => if k then
      match body L M1 with
      | .next L2 M2 => whileL c body n L2 M2
      | .cont L2 M2 => whileL c body n L2 M2
      | .brk L2 M2 => .next L2 M2
      | .ret d M2 => .ret d M2
      | .exc c e L2 M2 => .exc c e L2 M2
      | .bad => .bad
    else .next L M1
mutual
def exS (cl : Cl) : S → Lo → List D → RS
  | .asg t e, L, M => (evE cl e L M).then L fun d M1 => match asg t d L with | some L1 => .next L1 M1 | none => .bad
  | .aug i o e, L, M => match L[i]? with
    | some (some x) => (evE cl e L M).then L fun y M1 => match x, y with | .int a, .int b => (match intS o a b with | some z => .next (L.set i (some (.int z))) M1 | none => .bad) | _, _ => .bad
    | _ => .bad
  | .setI o i e, L, M => (evE cl e L M).then L fun v M1 => (evE cl o L M1).then L fun x M2 => (evE cl i L M2).then L fun y M3 => match setS M3 x y v with | some M4 => .next L M4 | none => .bad
  | .ex e, L, M => (evE cl e L M).then L fun _ M1 => .next L M1
  | .ret e, L, M => (evE cl e L M).then L fun d M1 => .ret d M1
  | .ite c a b, L, M => (evE cl c L M).then L fun x M1 => (ofO (truth M1 x) M1).then L fun k M1 => if k then exSs cl a L M1 else exSs cl b L M1
  | .for t it b, L, M => (evI cl it L M).then L fun w M1 => forL w t (exSs cl b) w.items L M1
  | .whil c b, L, M => whileL (evE cl c) (exSs cl b) cl.fuel L M
  | .pass, L, M => .next L M
  | .bad, _, _ => .bad
  | .brk, L, M => .brk L M
  | .cont, L, M => .cont L M
  | .raise c es, L, M => (evEs cl es L M).then L fun vs M1 => match vs with | [d] => .exc c d L M1 | _ => .exc c .non L M1
def exSs (cl : Cl) : Ss → Lo → List D → RS
  | .nil, L, M => .next L M
  | .cons s ss, L, M => (exS cl s L M).seq fun L1 M1 => exSs cl ss L1 M1
end

/-! ### defs -/
structure FD where
  kp : Bool := false
  np : Nat
  nl : Nat
  body : Ss
/-- behind a call: what the call made and nobody holds is forgotten, the answer frozen -/
def clean (M : List D) (d : D) (M' : List D) : R D :=
  if bqs (M'.take M.length) M || bels M.length (M'.take M.length) then
    match frz M' M.length 6 d with
    | some d' => .ok d' (M'.take M.length)
    | none => .bad
  else .ok d M'
/-- kp: the answer stays what it is -/
def ends (kp : Bool) (M : List D) (d : D) (M' : List D) : R D := if kp then .ok d M' else clean M d M'
/-- behind a call that an exception leaves -/
def endX (M : List D) (c : Str) (e : D) (M' : List D) : R D := if bel M.length e && (bqs (M'.take M.length) M || bels M.length (M'.take M.length)) then .exc c e (M'.take M.length) else .exc c e M'
def fin (kp : Bool) (M : List D) : RS → R D
  | .next _ M' => ends kp M .non M'
  | .ret d M' => ends kp M d M'
  | .exc c e _ M' => endX M c e M'
  | _ => .bad
def runB (T : List FD) (cl : Cl) (f : Nat) (args M : List D) : R D := match T[f]? with
  | none => .bad
  | some fd => if args.length = fd.np then fin fd.kp M (exSs cl fd.body (args.map some ++ List.replicate (fd.nl - fd.np) none) M) else .bad
def runF (T : List FD) (fuel : Nat) : Nat → Nat → List D → List D → R D
  | 0 => fun _ _ _ => .bad
  | 1 => runB T ⟨runF T fuel 0, fuel, fun _ _ _ => .bad, false⟩
  | 2 => runB T ⟨runF T fuel 1, fuel, fun _ _ _ => .bad, false⟩
  | k + 3 => runB T ⟨runF T fuel (k + 2), fuel, runF T fuel k, true⟩
/-- what a body at the call depth k + 1 has -/
def clOf (T : List FD) (fuel : Nat) : Nat → Cl
  | 0 => ⟨runF T fuel 0, fuel, fun _ _ _ => .bad, false⟩
  | 1 => ⟨runF T fuel 1, fuel, fun _ _ _ => .bad, false⟩
  | k + 2 => ⟨runF T fuel (k + 2), fuel, runF T fuel k, true⟩
theorem runF_succ (T : List FD) (fuel k : Nat) : runF T fuel (k + 1) = runB T (clOf T fuel k) := by
  match k with
  | 0 => rfl
  | 1 => rfl
  | k + 2 => rfl
theorem clOf_call (T : List FD) (fuel k : Nat) : (clOf T fuel k).call = runF T fuel k := by
  match k with
  | 0 => rfl
  | 1 => rfl
  | k + 2 => rfl
theorem clOf_low {T : List FD} {fuel k : Nat} (h : (clOf T fuel k).hi = true) : ∃ j, k = j + 2 ∧ (clOf T fuel k).low = runF T fuel j := by
  match k, h with
  | 0, h => cases h
  | 1, h => cases h
  | k + 2, _ => exact ⟨k, rfl, rfl⟩

end MP
/-! MiniPy 2: how data lies in the abstract heap. -/
namespace MP
open PySem L2

/-- where the objects of the small heap lie; what is barred (a comprehension's list in the making) -/
structure Ph where
  f : List Addr
  b : List Addr := []
/-- the tables of code objects that are in use -/
class TabC where
  T : List (Addr × Str)
/-- no table of code objects -/
abbrev NT (o : HO) : Prop := ∀ ps, o ≠ .tbl ps
/-- .. and no such object itself -/
abbrev NX (o : HO) : Prop := (∀ ps, o ≠ .tbl ps) ∧ ∀ f, o ≠ .ext f
theorem tabs_put {T : List (Addr × Str)} {H H' : Hp} {a : Addr} {u : HO} (t : LamX.Tabs T H) (h : H a = some u) (n : NX u) (e : ∀ b, b ≠ a → H' b = H b) : LamX.Tabs T H' := by
  intro p hp
  obtain ⟨ps, h1, h2, h3⟩ := t p hp
  have hP : p.1 ≠ a := fun z => by
    rw [z, h] at h1
    exact n.1 ps (Option.some.inj h1)
  refine ⟨ps, by rw [e _ hP]; exact h1, h2, fun pos cv hc => ?_⟩
  obtain ⟨c, e1, e2⟩ := h3 pos cv hc
  have hC : c ≠ a := fun z => by
    rw [z, h] at e2
    unfold LamX.CodeO at e2
    exact n.2 _ (Option.some.inj e2)
  exact ⟨c, e1, by rw [e _ hC]; exact e2⟩
variable [TabC]
def Out (φ : Ph) (a : Addr) : Prop := a ∉ φ.f ∧ a ∉ φ.b
/-- the script: a list that stays as it is -/
def ScrAt (K : PySem.W.Frag) (φ : Ph) (H : Hp) (a : Addr) (xs : List V) : Prop := (∃ u, H a = some u ∧ (u = .lst xs ∨ ∃ o, u = .frz o (.lst xs)) ∧ Out φ a) ∨
  ∃ (o : Obj) (its : Array Value) (n : Nat), K.lookup a = some o ∧ o.cls = .type "list" ∧ o.dict = none ∧ o.data = .seq its n ∧ its.size ≤ sizeLine ∧ Vals xs its.toList
theorem ScrAt.sq {K : PySem.W.Frag} {φ : Ph} {H : Hp} {a : Addr} {xs : List V} (h : ScrAt K φ H a xs) : SqL K H a xs := by
  rcases h with ⟨u, h1, rfl | ⟨o, rfl⟩, _⟩ | h
  · exact .inl (.inl h1)
  · exact .inl (.inr ⟨_, h1⟩)
  · exact .inr h
theorem ScrAt.mp {K : PySem.W.Frag} {φ φ' : Ph} {H H' : Hp} {a : Addr} {xs : List V} (h : ScrAt K φ H a xs) (k : ∀ b o, H b = some o → NT o → Out φ b → H' b = some o ∧ Out φ' b) : ScrAt K φ' H' a xs := by
  rcases h with ⟨u, h1, hu, h2⟩ | h
  · obtain ⟨k1, k2⟩ := k a u h1 (by rcases hu with rfl | ⟨o, rfl⟩ <;> exact fun _ z => by cases z) h2
    exact .inl ⟨u, k1, hu, k2⟩
  · exact .inr h
section
variable (K : PySem.W.Frag) (φ : Ph) (H : Hp)
mutual
inductive Rep : D → V → Prop
  | non : Rep .non .non
  | bl (b : Bool) : Rep (.bl b) (.bl b)
  | int (i : Int) : Rep (.int i) (.int i)
  | str (x : Str) : Rep (.str x) (.str x)
  | ty (n : String) : Rep (.ty n) (.ty n)
  | tup {a : Addr} {xs : List V} {l : List D} : H a = some (.tup xs) → Out φ a → Reps l xs → Rep (.tup l) (.ref a)
  | tupK {a : Addr} {o : Obj} {its : Array Value} {n : Nat} {xs : List V} {l : List D} : K.lookup a = some o → o.cls = .type "tuple" → o.data = .seq its n → its.size ≤ sizeLine → Vals xs its.toList → Reps l xs → Rep (.tup l) (.ref a)
  | lst {a : Addr} {xs : List V} {l : List D} : H a = some (.lst xs) → Out φ a → Reps l xs → Rep (.lst l) (.ref a)
  | scr {a : Addr} {xs : List V} {l : List D} : ScrAt K φ H a xs → Reps l xs → Rep (.scr l) (.ref a)
  | dct0 {a : Addr} : H a = some (.dK []) → Out φ a → Rep (.dct []) (.ref a)
  | ref {n : Nat} {a : Addr} : φ.f[n]? = some a → Rep (.ref n) (.ref a)
inductive Reps : List D → List V → Prop
  | nil : Reps [] []
  | cons {d : D} {v : V} {l : List D} {vs : List V} : Rep d v → Reps l vs → Reps (d :: l) (v :: vs)
end
/-- the object at a place of the small heap -/
inductive ObjAt : D → Addr → Prop
  | lst {a : Addr} {xs : List V} {l : List D} : H a = some (.lst xs) → Reps K φ H l xs → ObjAt (.lst l) a
  | dct0 {a : Addr} : H a = some (.dK []) → ObjAt (.dct []) a
structure MH (M : List D) : Prop where
  nd : φ.f.Nodup
  len : φ.f.length = M.length
  bar : ∀ b ∈ φ.b, b ∉ φ.f ∧ ∃ o, H b = some o ∧ NX o
  tab : LamX.Tabs TabC.T H
  at_ : ∀ (n : Nat) (a : Addr) (d : D), φ.f[n]? = some a → M[n]? = some d → ObjAt K φ H d a
structure LR (L : Lo) (σ : St) : Prop where
  len : L.length = σ.length
  at_ : ∀ (i : Nat) (d : D), L[i]? = some (some d) → ∃ v, σ[i]? = some (some v) ∧ Rep K φ H d v
end
structure Ext (φ : Ph) (H : Hp) (φ' : Ph) (H' : Hp) : Prop where
  pre : ∃ t, φ.f ++ t = φ'.f
  bar : φ'.b = φ.b
  keep : ∀ b o, H b = some o → NT o → b ∉ φ.f → H' b = some o ∧ b ∉ φ'.f

section
variable {K : PySem.W.Frag} {φ φ1 φ2 : Ph} {H H1 H2 : Hp}
theorem Ext.refl : Ext φ H φ H := ⟨⟨[], by simp⟩, rfl, fun _ _ h _ n => ⟨h, n⟩⟩
theorem Ext.trans (a : Ext φ H φ1 H1) (b : Ext φ1 H1 φ2 H2) : Ext φ H φ2 H2 := by
  obtain ⟨⟨t, e⟩, b1, k⟩ := a
  obtain ⟨⟨t', e'⟩, b2, k'⟩ := b
  refine ⟨⟨t ++ t', by rw [← e', ← e, List.append_assoc]⟩, b2.trans b1, fun x o h nt n => ?_⟩
  obtain ⟨h1, n1⟩ := k x o h nt n
  exact k' x o h1 nt n1
theorem Ext.get (e : Ext φ H φ1 H1) {n : Nat} {a : Addr} (h : φ.f[n]? = some a) : φ1.f[n]? = some a := by
  obtain ⟨⟨t, e⟩, _, _⟩ := e
  rw [← e, List.getElem?_append_left (List.getElem?_eq_some_iff.mp h).1]
  exact h
theorem Ext.out (e : Ext φ H φ1 H1) {a : Addr} {o : HO} (h : H a = some o) (nt : NT o) (n : Out φ a) : H1 a = some o ∧ Out φ1 a :=
  ⟨(e.keep _ _ h nt n.1).1, (e.keep _ _ h nt n.1).2, by rw [e.bar]; exact n.2⟩
mutual
theorem Rep.ext (e : Ext φ H φ1 H1) : ∀ (d : D) (v : V), Rep K φ H d v → Rep K φ1 H1 d v
  | .non, _, h => by cases h; exact .non
  | .bl _, _, h => by cases h; exact .bl _
  | .int _, _, h => by cases h; exact .int _
  | .str _, _, h => by cases h; exact .str _
  | .ty _, _, h => by cases h; exact .ty _
  | .tup l, _, h => by
    cases h with
    | tup h1 h2 h3 => exact .tup (e.out h1 (fun _ z => by cases z) h2).1 (e.out h1 (fun _ z => by cases z) h2).2 (Reps.ext e _ _ h3)
    | tupK h1 h2 h3 h4 h5 h6 => exact .tupK h1 h2 h3 h4 h5 (Reps.ext e _ _ h6)
  | .lst l, _, h => by
    cases h with
    | lst h1 h2 h3 => exact .lst (e.out h1 (fun _ z => by cases z) h2).1 (e.out h1 (fun _ z => by cases z) h2).2 (Reps.ext e _ _ h3)
  | .scr l, _, h => by
    cases h with
    | scr h1 h3 => exact .scr (h1.mp fun b o h nt n => e.out h nt n) (Reps.ext e _ _ h3)
  | .dct l, _, h => by
    cases h with
    | dct0 h1 h2 => exact .dct0 (e.out h1 (fun _ z => by cases z) h2).1 (e.out h1 (fun _ z => by cases z) h2).2
  | .ref n, _, h => by
    cases h with
    | ref h1 => exact .ref (e.get h1)
theorem Reps.ext (e : Ext φ H φ1 H1) : ∀ (l : List D) (vs : List V), Reps K φ H l vs → Reps K φ1 H1 l vs
  | [], _, h => by cases h; exact .nil
  | d :: l, _, h => by
    cases h with
    | cons h1 h2 => exact .cons (Rep.ext e _ _ h1) (Reps.ext e _ _ h2)
end
theorem Rep.sqT {l : List D} {v : V} (h : Rep K φ H (.tup l) v) : ∃ a xs, v = .ref a ∧ SqT K H a xs ∧ Reps K φ H l xs := by
  cases h with
  | tup h1 h2 h3 => exact ⟨_, _, rfl, SqT.of h1, h3⟩
  | tupK h1 h2 h3 h4 h5 h6 => exact ⟨_, _, rfl, .inr ⟨_, _, _, h1, h2, h3, h4, h5⟩, h6⟩
theorem Reps.length : ∀ {l : List D} {vs : List V}, Reps K φ H l vs → l.length = vs.length
  | [], _, h => by cases h; rfl
  | d :: l, _, h => by
    cases h with
    | cons h1 h2 => simp [Reps.length h2]
theorem Reps.get : ∀ {l : List D} {vs : List V} {i : Nat} {d : D}, Reps K φ H l vs → l[i]? = some d → ∃ v, vs[i]? = some v ∧ Rep K φ H d v
  | [], _, _, _, _, e => by simp at e
  | d :: l, _, 0, x, h, e => by
    cases h with
    | cons h1 h2 =>
      simp at e
      subst e
      exact ⟨_, rfl, h1⟩
  | d :: l, _, i + 1, x, h, e => by
    cases h with
    | cons h1 h2 =>
      have e' : l[i]? = some x := by simpa using e
      exact Reps.get (i := i) h2 e'
theorem Reps.getV : ∀ {l : List D} {vs : List V} {i : Nat} {v : V}, Reps K φ H l vs → vs[i]? = some v → ∃ d, l[i]? = some d ∧ Rep K φ H d v
  | [], _, _, _, h, e => by cases h; simp at e
  | d :: l, _, 0, x, h, e => by
    cases h with
    | cons h1 h2 =>
      simp at e
      subst e
      exact ⟨_, rfl, h1⟩
  | d :: l, _, i + 1, x, h, e => by
    cases h with
    | @cons _ _ _ ws h1 h2 =>
      have e' : ws[i]? = some x := by simpa using e
      exact Reps.getV (i := i) h2 e'
theorem Reps.append : ∀ {l m : List D} {vs ws : List V}, Reps K φ H l vs → Reps K φ H m ws → Reps K φ H (l ++ m) (vs ++ ws)
  | [], _, _, _, h, h' => by cases h; exact h'
  | d :: l, _, _, _, h, h' => by
    cases h with
    | cons h1 h2 => exact .cons h1 (Reps.append h2 h')
theorem Reps.take : ∀ (n : Nat) {l : List D} {vs : List V}, Reps K φ H l vs → Reps K φ H (l.take n) (vs.take n)
  | 0, _, _, _ => .nil
  | n + 1, [], _, h => by cases h; exact .nil
  | n + 1, d :: l, _, h => by
    cases h with
    | cons h1 h2 => exact .cons h1 (Reps.take n h2)
theorem Reps.drop : ∀ (n : Nat) {l : List D} {vs : List V}, Reps K φ H l vs → Reps K φ H (l.drop n) (vs.drop n)
  | 0, _, _, h => h
  | n + 1, [], _, h => by cases h; exact .nil
  | n + 1, d :: l, _, h => by
    cases h with
    | cons h1 h2 => exact Reps.drop n h2
theorem Reps.set {d : D} {v : V} (r : Rep K φ H d v) : ∀ (n : Nat) {l : List D} {vs : List V}, Reps K φ H l vs → Reps K φ H (l.set n d) (vs.set n v)
  | _, [], _, h => by cases h; exact .nil
  | 0, _ :: l, _, h => by
    cases h with
    | cons h1 h2 => exact .cons r h2
  | n + 1, _ :: l, _, h => by
    cases h with
    | cons h1 h2 => exact .cons h1 (Reps.set r n h2)
theorem Reps.flat {l : List D} {vs : List V} (h : Reps K φ H l vs) : ∀ k : Nat, Reps K φ H (List.replicate k l).flatten (List.replicate k vs).flatten
  | 0 => .nil
  | k + 1 => by
    rw [List.replicate_succ, List.replicate_succ, List.flatten_cons, List.flatten_cons]
    exact h.append (Reps.flat h k)
theorem Reps.ints : ∀ {l : List D} {vs : List V} {ns : List Int}, Reps K φ H l vs → allInts l = some ns → vs = ns.map V.int ∧ l = ns.map D.int
  | [], _, _, h, e => by
    cases h
    simp [allInts] at e
    subst e
    exact ⟨rfl, rfl⟩
  | d :: l, _, ns, h, e => by
    cases h with
    | cons h1 h2 =>
      cases d <;> simp [allInts] at e
      obtain ⟨r, e1, rfl⟩ := e
      cases h1
      obtain ⟨q1, q2⟩ := Reps.ints h2 e1
      rw [q1, q2]
      exact ⟨rfl, rfl⟩
theorem Reps.bls : ∀ {l : List D} {vs : List V} {ns : List Bool}, Reps K φ H l vs → allBls l = some ns → vs = ns.map V.bl ∧ l = ns.map D.bl
  | [], _, _, h, e => by
    cases h
    simp [allBls] at e
    subst e
    exact ⟨rfl, rfl⟩
  | d :: l, _, ns, h, e => by
    cases h with
    | cons h1 h2 =>
      cases d <;> simp [allBls] at e
      obtain ⟨r, e1, rfl⟩ := e
      cases h1
      obtain ⟨q1, q2⟩ := Reps.bls h2 e1
      rw [q1, q2]
      exact ⟨rfl, rfl⟩
theorem reps_ints : ∀ ns : List Int, Reps K φ H (ns.map D.int) (ns.map V.int)
  | [] => .nil
  | i :: r => .cons (.int i) (reps_ints r)

/-! ### the small heap -/
theorem ObjAt.ext {d : D} {a : Addr} (h : ObjAt K φ H d a) (e : Ext φ H φ1 H1) (ha : H1 a = H a) : ObjAt K φ1 H1 d a := by
  cases h with
  | lst h1 h2 => exact .lst (ha.trans h1) (Reps.ext e _ _ h2)
  | dct0 h1 => exact .dct0 (ha.trans h1)
theorem ObjAt.there {d : D} {a : Addr} (h : ObjAt K φ H d a) : ∃ o, H a = some o ∧ NX o := by
  cases h with
  | lst h1 _ => exact ⟨_, h1, (⟨fun _ z => (by cases z), fun _ z => (by cases z)⟩ : NX _)⟩
  | dct0 h1 => exact ⟨_, h1, (⟨fun _ z => (by cases z), fun _ z => (by cases z)⟩ : NX _)⟩
theorem MH.there {M : List D} (m : MH K φ H M) {a : Addr} (h : a ∈ φ.f) : ∃ o, H a = some o ∧ NX o := by
  obtain ⟨n, hn, e⟩ := List.mem_iff_getElem.mp h
  have hn' : n < M.length := by rw [← m.len]; exact hn
  exact (m.at_ n a M[n] (by rw [List.getElem?_eq_getElem hn, e]) (List.getElem?_eq_getElem hn')).there
/-- a frozen new object -/
theorem Ext.new {p : Addr} {o : HO} (hp : H p = none) : Ext φ H φ (upd H p o) :=
  ⟨⟨[], by simp⟩, rfl, fun b u h _ n => ⟨by rw [upd_ne (ne_of_none h hp)]; exact h, n⟩⟩
theorem MH.new {M : List D} {p : Addr} {o : HO} (m : MH K φ H M) (hp : H p = none) : MH K φ (upd H p o) M :=
  ⟨m.nd, m.len, fun b hb => ⟨(m.bar b hb).1, let ⟨u, hu, hx⟩ := (m.bar b hb).2; ⟨u, by rw [upd_ne (ne_of_none hu hp)]; exact hu, hx⟩⟩, m.tab.ext fun b u hu => by rw [upd_ne (ne_of_none hu hp)]; exact hu, fun n a d h1 h2 => (m.at_ n a d h1 h2).ext (Ext.new hp) (by
    obtain ⟨u, hu, _⟩ := (m.at_ n a d h1 h2).there
    rw [upd_ne (ne_of_none hu hp)])⟩
theorem MH.notin {M : List D} {p : Addr} (m : MH K φ H M) (hp : H p = none) : Out φ p := by
  refine ⟨fun h => ?_, fun h => ?_⟩
  · obtain ⟨u, hu, _⟩ := m.there h
    rw [hp] at hu
    cases hu
  · obtain ⟨_, u, hu, _⟩ := m.bar p h
    rw [hp] at hu
    cases hu
/-- one more object of the small heap -/
abbrev Ph.more (φ : Ph) (p : Addr) : Ph := { φ with f := φ.f ++ [p] }
/-- a new object of the small heap -/
theorem Ext.alloc {p : Addr} {o : HO} (hp : H p = none) : Ext φ H (φ.more p) (upd H p o) :=
  ⟨⟨[p], rfl⟩, rfl, fun b u h _ n => by
    have hb := ne_of_none h hp
    exact ⟨by rw [upd_ne hb]; exact h, by simp [n, hb]⟩⟩
theorem MH.alloc {M : List D} {p : Addr} {o : HO} {d : D} (m : MH K φ H M) (hp : H p = none) (ob : ObjAt K (φ.more p) (upd H p o) d p) : MH K (φ.more p) (upd H p o) (M ++ [d]) := by
  refine ⟨?_, by simp [m.len], fun b hb => ?_, m.tab.ext fun b u hu => by rw [upd_ne (ne_of_none hu hp)]; exact hu, fun n a e h1 h2 => ?_⟩
  · rw [List.nodup_append]
    refine ⟨m.nd, by simp, fun a ha b hb => ?_⟩
    simp at hb
    subst hb
    intro z
    subst z
    exact (m.notin hp).1 ha
  · obtain ⟨n, u, hu, hx⟩ := m.bar b hb
    have hbp := ne_of_none hu hp
    exact ⟨by simp [n, hbp], u, by rw [upd_ne hbp]; exact hu, hx⟩
  · by_cases hn : n < φ.f.length
    · rw [List.getElem?_append_left hn] at h1
      rw [List.getElem?_append_left (by rw [← m.len]; exact hn)] at h2
      refine (m.at_ n a e h1 h2).ext (Ext.alloc hp) ?_
      obtain ⟨u, hu, _⟩ := (m.at_ n a e h1 h2).there
      rw [upd_ne (ne_of_none hu hp)]
    · rw [List.getElem?_append_right (by omega)] at h1
      rw [List.getElem?_append_right (by rw [← m.len]; omega)] at h2
      have e0 : n - φ.f.length = 0 := by
        have := (List.getElem?_eq_some_iff.mp h1).1
        simp at this
        omega
      rw [e0] at h1
      rw [← m.len, e0] at h2
      simp at h1 h2
      subst h1 h2
      exact ob
/-- an object of the small heap is changed -/
theorem Ext.set {M : List D} {n : Nat} {a : Addr} {o : HO} (h : φ.f[n]? = some a) : Ext φ H φ (upd H a o) :=
  ⟨⟨[], by simp⟩, rfl, fun b u hb _ nb => ⟨by rw [upd_ne (fun z => nb (by rw [z]; exact List.mem_of_getElem? h))]; exact hb, nb⟩⟩
theorem nd_ix' {α : Type} {l : List α} (h : l.Nodup) {i j : Nat} {a : α} (h1 : l[i]? = some a) (h2 : l[j]? = some a) : i = j := by
  obtain ⟨a1, b1⟩ := List.getElem?_eq_some_iff.mp h1
  obtain ⟨a2, b2⟩ := List.getElem?_eq_some_iff.mp h2
  exact (List.getElem_inj h).mp (b1.trans b2.symm)
theorem MH.set {M : List D} {n : Nat} {a : Addr} {o : HO} {d : D} (m : MH K φ H M) (h : φ.f[n]? = some a) (ob : ObjAt K φ (upd H a o) d a) : MH K φ (upd H a o) (M.set n d) := by
  refine ⟨m.nd, by simp [m.len], fun b hb => ?_, ?_, fun k b e h1 h2 => ?_⟩
  · obtain ⟨n, u, hu, hx⟩ := m.bar b hb
    exact ⟨n, u, by rw [upd_ne (fun z => n (by rw [z]; exact List.mem_of_getElem? h))]; exact hu, hx⟩
  · obtain ⟨u, hu, hx⟩ := m.there (List.mem_of_getElem? h)
    exact tabs_put m.tab hu hx fun b hb => upd_ne hb
  by_cases hk : n = k
  · subst hk
    rw [h] at h1
    cases h1
    rw [List.getElem?_set_self (by rw [← m.len]; exact (List.getElem?_eq_some_iff.mp h).1)] at h2
    cases h2
    exact ob
  · rw [List.getElem?_set_ne hk] at h2
    refine (m.at_ k b e h1 h2).ext (Ext.set (M := M) h) ?_
    refine upd_ne fun z => hk ?_
    subst z
    exact nd_ix' m.nd h h1

/-! ### local names -/
theorem LR.ext {L : Lo} {σ : St} (l : LR K φ H L σ) (e : Ext φ H φ1 H1) : LR K φ1 H1 L σ :=
  ⟨l.len, fun i d h => let ⟨v, h1, h2⟩ := l.at_ i d h; ⟨v, h1, Rep.ext e _ _ h2⟩⟩
theorem LR.set {L : Lo} {σ : St} {d : D} {v : V} (l : LR K φ H L σ) (i : Nat) (r : Rep K φ H d v) : LR K φ H (L.set i (some d)) (σ.set i (some v)) := by
  refine ⟨by simp [l.len], fun j e h => ?_⟩
  by_cases hj : i = j
  · subst hj
    by_cases hi : i < L.length
    · rw [List.getElem?_set_self hi] at h
      cases h
      exact ⟨v, by rw [List.getElem?_set_self (by rw [← l.len]; exact hi)], r⟩
    · rw [List.getElem?_eq_none (by simpa using hi)] at h
      cases h
  · rw [List.getElem?_set_ne hj] at h
    obtain ⟨w, h1, h2⟩ := l.at_ j e h
    exact ⟨w, by rw [List.getElem?_set_ne hj]; exact h1, h2⟩
theorem LR.wipe {L : Lo} {σ : St} (l : LR K φ H L σ) : ∀ vs : List Nat, LR K φ H (MP.wipe L vs) (L2.wipe σ vs)
  | [] => l
  | v :: vs => by
    have ih := LR.wipe l vs
    unfold MP.wipe L2.wipe
    refine ⟨by simp [ih.len], fun j e h => ?_⟩
    by_cases hj : v = j
    · subst hj
      by_cases hi : v < (MP.wipe L vs).length
      · rw [List.getElem?_set_self hi] at h
        cases h
      · rw [List.getElem?_eq_none (by simpa using hi)] at h
        cases h
    · rw [List.getElem?_set_ne hj] at h
      obtain ⟨w, h1, h2⟩ := ih.at_ j e h
      exact ⟨w, by rw [List.getElem?_set_ne hj]; exact h1, h2⟩
end

/-! ### what a step leaves -/
section
/-- an exception as the layer sees it: an object of the own class c, without values of its own -/
def XRep (K : PySem.W.Frag) (φ : Ph) (H : Hp) (c : Str) (e : D) (cls : Value) (dd : Option Addr) : Prop :=
  e = .non ∧ dd = none ∧ ∃ C, PySem.W.nsIn K mainGlobals c = some (some (.ref C)) ∧ cls = .ref C
def PR (K : PySem.W.Frag) (W : WX) (σ : St) {α : Type} (φ : Ph) (H : Hp) (r : R α) (G : α → List D → Ph → Hp → Prop) : Prop := match r with
  | .ok a M' => ∀ φ' H', Ext φ H φ' H' → MH K φ' H' M' → G a M' φ' H'
  | .exc c e M' => ∀ φ' H' cls dd, Ext φ H φ' H' → MH K φ' H' M' → XRep K φ' H' c e cls dd → W cls dd σ H'
  | .bad => False
def tE (K : PySem.W.Frag) (W : WX) (m : Lo → List D → R D) : TE := fun σ H Q => ∃ L φ M, LR K φ H L σ ∧ MH K φ H M ∧ PR K W σ φ H (m L M) fun d _ φ' H' => ∀ v, Rep K φ' H' d v → Q v H'
def tEs (K : PySem.W.Frag) (W : WX) (m : Lo → List D → R (List D)) : TA := fun σ H Q => ∃ L φ M, LR K φ H L σ ∧ MH K φ H M ∧ PR K W σ φ H (m L M) fun d _ φ' H' => ∀ v, Reps K φ' H' d v → Q v H'
def tT (K : PySem.W.Frag) (W : WX) (m : Lo → List D → R D) : TT := fun σ H Q => ∃ L φ M, LR K φ H L σ ∧ MH K φ H M ∧ PR K W σ φ H (m L M) fun d M' φ' H' => ∃ k, truth M' d = some k ∧ Q k H'
end
section
variable {K : PySem.W.Frag} {W : WX} {σ : St} {φ φ1 φ2 : Ph} {H H1 H2 : Hp} {α β : Type}
theorem PR.mono {r : R α} {G G' : α → List D → Ph → Hp → Prop} (p : PR K W σ φ H r G) (h : ∀ a M' φ' H', Ext φ H φ' H' → MH K φ' H' M' → G a M' φ' H' → G' a M' φ' H') : PR K W σ φ H r G' := by
  cases r with
  | ok a M => exact fun φ' H' e m => h a M φ' H' e m (p φ' H' e m)
  | exc c e M => exact p
  | bad => exact p
/-- the state moves on -/
theorem PR.ext {r : R α} {G : α → List D → Ph → Hp → Prop} (p : PR K W σ φ H r G) (e : Ext φ H φ1 H1) : PR K W σ φ1 H1 r G := by
  cases r with
  | ok a M => exact fun φ' H' e' m => p φ' H' (e.trans e') m
  | exc c x M => exact fun φ' H' cls dd e' m => p φ' H' cls dd (e.trans e') m
  | bad => exact p
theorem PR.bind {r : R α} {f : α → List D → R β} {G : β → List D → Ph → Hp → Prop} (p : PR K W σ φ H (r.bind f) G) :
    PR K W σ φ H r fun a M1 φ1 H1 => PR K W σ φ1 H1 (f a M1) G := by
  cases r with
  | ok a M => exact fun φ' H' e m => PR.ext (show PR K W σ φ H (f a M) G from p) e
  | exc c e M => exact p
  | bad => exact p
/-- the end is here -/
theorem PR.here {a : α} {M : List D} {G : α → List D → Ph → Hp → Prop} (p : PR K W σ φ H (.ok a M) G) (m : MH K φ H M) : G a M φ H := p φ H Ext.refl m
theorem tE_use {L : Lo} {M : List D} {m : Lo → List D → R D} {Q : VK} {G : D → List D → Ph → Hp → Prop} (lr : LR K φ H L σ) (mh : MH K φ H M) (p : PR K W σ φ H (m L M) G)
    (h : ∀ d M' φ' H' v, Ext φ H φ' H' → MH K φ' H' M' → G d M' φ' H' → Rep K φ' H' d v → Q v H') : tE K W m σ H Q :=
  ⟨L, φ, M, lr, mh, p.mono fun d M' φ' H' e mh' g v r => h d M' φ' H' v e mh' g r⟩
theorem tEs_use {L : Lo} {M : List D} {m : Lo → List D → R (List D)} {Q : List V → Hp → Prop} {G : List D → List D → Ph → Hp → Prop} (lr : LR K φ H L σ) (mh : MH K φ H M) (p : PR K W σ φ H (m L M) G)
    (h : ∀ d M' φ' H' v, Ext φ H φ' H' → MH K φ' H' M' → G d M' φ' H' → Reps K φ' H' d v → Q v H') : tEs K W m σ H Q :=
  ⟨L, φ, M, lr, mh, p.mono fun d M' φ' H' e mh' g v r => h d M' φ' H' v e mh' g r⟩
theorem tT_use {L : Lo} {M : List D} {m : Lo → List D → R D} {Q : Bool → Hp → Prop} {G : D → List D → Ph → Hp → Prop} (lr : LR K φ H L σ) (mh : MH K φ H M) (p : PR K W σ φ H (m L M) G)
    (h : ∀ d M' φ' H', Ext φ H φ' H' → MH K φ' H' M' → G d M' φ' H' → ∃ k, truth M' d = some k ∧ Q k H') : tT K W m σ H Q :=
  ⟨L, φ, M, lr, mh, p.mono fun d M' φ' H' e mh' g => h d M' φ' H' e mh' g⟩
end
end MP
/-! MiniPy 2b: t * 1 is t. -/
namespace MP
open PySem PySem.Spec PyProof.Rows L2
theorem tuple_mulW1 (l : Addr) (items : Array Value) (n : Nat) (dd : Option Addr) (sl : Array (Option Value)) (u : Tok) :
    Meets (Builtin.«tuple.__mul__» ⟨[.ref l, .int 1 u], []⟩) (fun _ R s => s.heap.get? l = some { cls := .type "tuple", dict := dd, data := .seq items n, slots := sl } ∧ R (.ok (.ret (Value.ref l))) s) :=
  .of_wp fun prog w A R s h => by
    obtain ⟨hp, g, d, tk, os⟩ := s
    obtain ⟨hl, h⟩ := h
    have f1 := AutoSeq1.idx_int
    wp_walk using wpAny_loadPart' hl
    repeat (first
      | (refine wpAny_ite_false (decide_eq_false (by decide)) ?_; wp_walk using wpAny_loadPart' hl)
      | (refine wpAny_ite_true (decide_eq_true (by rw [show ((1 : Int) == 1) = true from rfl, Bool.or_true])) ?_; wp_walk using wpAny_loadPart' hl))
    exact ⟨_, rfl, h⟩
section
variable {X : Cx}
def rRepT1 (K : PySem.W.Frag) : R2 := fun x y H Q => ∃ l xs, x = .ref l ∧ y = .int 1 ∧ SqT K H l xs ∧ Q (.ref l) H
theorem op_repT1 : OpR X (binaryOp .Mult) (rRepT1 X.K) := by
  intro pins s σ H x y v u Q I rx ry h
  obtain ⟨l, xs, rfl, rfl, hT, q⟩ := h
  cases rx
  obtain ⟨t, rfl⟩ := ry
  obtain ⟨its, r, ⟨⟨cls, dd, data, sl⟩, ho, hc, n, hd⟩, hs⟩ := I.tuple hT
  simp only at hc hd
  subst hc hd
  refine wpAny_binaryOp_repeat_ref (T := "tuple") (U := "int") (by decide) ⟨_, ho, rfl⟩ (fun s' => typeIs_int s' 1 t) noFill_tuple_mul F.fills_int_mul F.slot_int_rmul repeat_tuple F.slot_int_index.lookup
    (call_meets F.slot_int_rmul (typeIs_int s 1 t) F.entry_int_rmul (F.args_int_rmul_2 _ _) (int_rmul_tuple 1 t l its.toArray n dd sl)
      ⟨ho, rfl, ⟨_, ho, rfl⟩, call_meets F.slot_tuple_mul ⟨_, ho, rfl⟩ F.entry_tuple_mul (F.args_tuple_mul_2 _ _) (tuple_mulW1 l its.toArray n dd sl t) ⟨ho, ?_⟩⟩)
  exact ⟨.ref l, H, I, rfl, q⟩
end
end MP
/-! MiniPy 3: operations by values. -/
namespace MP
open PySem PySem.Spec PyProof.Rows L2
variable [TabC]

section
variable {K : PySem.W.Frag} {φ φ1 : Ph} {H H1 : Hp} {M : List D}
/-! ### what a value is when its content is known -/
theorem lst_at {x : D} {v : V} {l : List D} (m : MH K φ H M) (r : Rep K φ H x v) (h : cont M x = some (.lst l)) : ∃ a xs, v = .ref a ∧ H a = some (.lst xs) ∧ Reps K φ H l xs := by
  cases r with
  | ref h1 =>
    cases m.at_ _ _ _ h1 h with
    | lst h2 h3 => exact ⟨_, _, rfl, h2, h3⟩
  | lst h1 h2 h3 =>
    simp [cont] at h
    subst h
    exact ⟨_, _, rfl, h1, h3⟩
  | _ => simp [cont] at h
theorem tup_at {x : D} {v : V} {l : List D} (m : MH K φ H M) (r : Rep K φ H x v) (h : cont M x = some (.tup l)) : x = .tup l := by
  cases r with
  | ref h1 => cases m.at_ _ _ _ h1 h
  | tup h1 h2 h3 => simp [cont] at h; subst h; rfl
  | tupK h1 h2 h3 h4 h5 h6 => simp [cont] at h; subst h; rfl
  | _ => simp [cont] at h
theorem scr_at {x : D} {v : V} {l : List D} (m : MH K φ H M) (r : Rep K φ H x v) (h : cont M x = some (.scr l)) : x = .scr l := by
  cases r with
  | ref h1 => cases m.at_ _ _ _ h1 h
  | scr h1 h3 => simp [cont] at h; subst h; rfl
  | _ => simp [cont] at h
theorem dct_at {x : D} {v : V} {l : List (D × D)} (m : MH K φ H M) (r : Rep K φ H x v) (h : cont M x = some (.dct l)) : ∃ a, v = .ref a ∧ H a = some (.dK []) ∧ l = [] := by
  cases r with
  | ref h1 =>
    cases m.at_ _ _ _ h1 h with
    | dct0 h2 => exact ⟨_, rfl, h2, rfl⟩
  | dct0 h1 h2 =>
    simp [cont] at h
    subst h
    exact ⟨_, rfl, h1, rfl⟩
  | _ => simp [cont] at h
/-- the others are themselves -/
theorem scal_at {x d : D} {v : V} (m : MH K φ H M) (r : Rep K φ H x v) (h : cont M x = some d) (hd : ∀ n, x = .ref n → ∀ l, d ≠ .lst l ∧ ∀ l, d ≠ .dct l) : x = d := by
  cases r with
  | @ref n a h1 =>
    cases m.at_ _ _ _ h1 h with
    | lst _ _ => exact absurd rfl ((hd n rfl _).1)
    | dct0 _ => exact absurd rfl ((hd n rfl []).2 _)
  | _ => simp [cont] at h; exact h

/-! ### readings by values -/
/-- a pure operation of two values -/
def rO (K : PySem.W.Frag) (f : List D → D → D → Option D) : R2 := fun x y H Q => ∃ φ M a b d, MH K φ H M ∧ Rep K φ H a x ∧ Rep K φ H b y ∧ f M a b = some d ∧
  ∀ φ' H' v, Ext φ H φ' H' → MH K φ' H' M → Rep K φ' H' d v → Q v H'
def rC (K : PySem.W.Frag) (f : List D → List D → Option D) : List V → Hp → VK → Prop := fun xs H Q => ∃ φ M as d, MH K φ H M ∧ Reps K φ H as xs ∧ f M as = some d ∧
  ∀ φ' H' v, Ext φ H φ' H' → MH K φ' H' M → Rep K φ' H' d v → Q v H'
def rMt (K : PySem.W.Frag) (f : List D → D → List D → Option (D × List D)) : V → List V → Hp → VK → Prop := fun x xs H Q => ∃ φ M a as d M', MH K φ H M ∧ Rep K φ H a x ∧ Reps K φ H as xs ∧ f M a as = some (d, M') ∧
  ∀ φ' H' v, Ext φ H φ' H' → MH K φ' H' M' → Rep K φ' H' d v → Q v H'
/-- the ends -/
theorem end_same {d : D} {v : V} {Q : VK} (m : MH K φ H M) (r : Rep K φ H d v) (q : ∀ φ' H' v, Ext φ H φ' H' → MH K φ' H' M → Rep K φ' H' d v → Q v H') : Q v H := q _ _ _ Ext.refl m r
theorem end_tup {l : List D} {xs : List V} {p : Addr} {Q : VK} (m : MH K φ H M) (hp : H p = none) (r : Reps K φ H l xs) (q : ∀ φ' H' v, Ext φ H φ' H' → MH K φ' H' M → Rep K φ' H' (.tup l) v → Q v H') : Q (.ref p) (upd H p (.tup xs)) :=
  q _ _ _ (Ext.new hp) (m.new hp) (.tup upd_same (m.notin hp) (Reps.ext (Ext.new hp) _ _ r))
theorem end_lst {l : List D} {xs : List V} {p : Addr} {Q : VK} (m : MH K φ H M) (hp : H p = none) (r : Reps K φ H l xs) (q : ∀ φ' H' v, Ext φ H φ' H' → MH K φ' H' M → Rep K φ' H' (.lst l) v → Q v H') : Q (.ref p) (upd H p (.lst xs)) :=
  q _ _ _ (Ext.new hp) (m.new hp) (.lst upd_same (m.notin hp) (Reps.ext (Ext.new hp) _ _ r))
end

/-! ### arithmetic -/
def opOf : Bop → Operator
  | .add => .Add | .sub => .Sub | .mul => .Mult | .fdiv => .FloorDiv | .mod => .Mod | .pow => .Pow
section
variable {X : Cx}
theorem okMul_c {i j : Int} (h : okMul i j = true) : CMul i j := by
  unfold okMul at h
  simp only [Bool.or_eq_true, Bool.and_eq_true, decide_eq_true_eq] at h
  exact h
/-- ints, any operator -/
theorem op_int (o : Bop) : OpR X (binaryOp (opOf o)) (fun x y H Q => ∃ i j k, x = .int i ∧ y = .int j ∧ intS o i j = some k ∧ Q (.int k) H) := by
  intro pins s σ H x y v u Q I rx ry h
  obtain ⟨i, j, k, rfl, rfl, e, q⟩ := h
  cases o with
  | add => cases e; exact op_add pins s σ H _ _ v u Q I rx ry ⟨i, j, rfl, rfl, q⟩
  | sub => cases e; exact op_sub pins s σ H _ _ v u Q I rx ry ⟨i, j, rfl, rfl, q⟩
  | mul =>
    simp only [intS] at e
    split at e
    · rename_i hc
      cases e
      exact op_mul pins s σ H _ _ v u Q I rx ry ⟨i, j, rfl, rfl, okMul_c hc, q⟩
    · cases e
  | fdiv =>
    simp only [intS] at e
    split at e
    · rename_i hc
      cases e
      exact op_fdivN pins s σ H _ _ v u Q I rx ry ⟨i, j, rfl, rfl, hc, q⟩
    · cases e
  | mod =>
    simp only [intS] at e
    split at e
    · rename_i hc
      cases e
      exact op_modN pins s σ H _ _ v u Q I rx ry ⟨i, j, rfl, rfl, hc, q⟩
    · cases e
  | pow =>
    simp only [intS] at e
    split at e
    · rename_i hc
      cases e
      obtain ⟨t, rfl⟩ := rx
      obtain ⟨t', rfl⟩ := ry
      exact pow_int hc.1 hc.2 ⟨.int _, H, I.tok _, ⟨_, rfl⟩, q⟩
    · cases e
theorem iop_int (o : Bop) (ho : o ≠ .pow) : OpR X (inplaceOp (opOf o)) (fun x y H Q => ∃ i j k, x = .int i ∧ y = .int j ∧ intS o i j = some k ∧ Q (.int k) H) := by
  intro pins s σ H x y v u Q I rx ry h
  obtain ⟨i, j, k, rfl, rfl, e, q⟩ := h
  cases o with
  | add => cases e; exact iop_add pins s σ H _ _ v u Q I rx ry ⟨i, j, rfl, rfl, q⟩
  | sub => cases e; exact iop_sub pins s σ H _ _ v u Q I rx ry ⟨i, j, rfl, rfl, q⟩
  | mul =>
    simp only [intS] at e
    split at e
    · rename_i hc
      cases e
      exact iop_mul pins s σ H _ _ v u Q I rx ry ⟨i, j, rfl, rfl, okMul_c hc, q⟩
    · cases e
  | fdiv =>
    simp only [intS] at e
    split at e
    · rename_i hc
      cases e
      obtain ⟨t, rfl⟩ := rx
      obtain ⟨t', rfl⟩ := ry
      exact ifloordiv_int hc.1 ⟨.int _, H, I.tok _, ⟨_, rfl⟩, q⟩ (.inl (PyProof.noPylong_small hc.2))
    · cases e
  | mod =>
    simp only [intS] at e
    split at e
    · rename_i hc
      cases e
      obtain ⟨t, rfl⟩ := rx
      obtain ⟨t', rfl⟩ := ry
      exact imod_int hc ⟨.int _, H, I.tok _, ⟨_, rfl⟩, q⟩
    · cases e
  | pow => exact absurd rfl ho

theorem or_bin (o : Bop) : OpR X (binaryOp (opOf o)) (rO X.K fun M x y => binS M o x y) := by
  intro pins s σ H x y v u Q I rx ry h
  obtain ⟨φ, M, a, b, d, m, ra, rb, e, q⟩ := h
  replace e : binS M o a b = some d := e
  unfold binS at e
  split at e
  · rename_i i j
    cases ra
    cases rb
    simp only [Option.map_eq_some_iff] at e
    obtain ⟨k, e, rfl⟩ := e
    exact op_int o pins s σ H _ _ v u Q I rx ry ⟨i, j, k, rfl, rfl, e, end_same m (.int k) q⟩
  · rename_i l1 l2
    split at e
    · rename_i hc
      obtain ⟨rfl, hz⟩ := hc
      cases e
      obtain ⟨p1, xs1, rfl, s1, r1⟩ := ra.sqT
      obtain ⟨p2, xs2, rfl, s2, r2⟩ := rb.sqT
      rw [r1.length, r2.length] at hz
      refine op_catA pins s σ H _ _ v u Q I rx ry ⟨p1, p2, xs1, xs2, rfl, rfl, s1, s2, hz, ?_⟩
      have k1 : xs1 = [] ↔ l1 = [] := by
        rw [← List.length_eq_zero_iff, ← r1.length, List.length_eq_zero_iff]
      have k2 : xs2 = [] ↔ l2 = [] := by
        rw [← List.length_eq_zero_iff, ← r2.length, List.length_eq_zero_iff]
      refine ⟨fun z => end_same m (d := .tup (l1 ++ l2)) (by rw [k1.mp z]; exact rb) q, fun _ z => end_same m (d := .tup (l1 ++ l2)) (by rw [k2.mp z, List.append_nil]; exact ra) q, fun _ _ p hp => end_tup m hp (r1.append r2) q⟩
    · cases e
  · rename_i l1 k
    split at e
    · rename_i hc
      obtain ⟨rfl, h1, h2, h3, h4⟩ := hc
      cases e
      cases rb
      obtain ⟨p1, xs1, rfl, s1, r1⟩ := ra.sqT
      by_cases hk : k = 1
      · subst hk
        refine op_repT1 pins s σ H _ _ v u Q I rx ry ⟨p1, xs1, rfl, rfl, s1, end_same m (d := .tup (List.replicate (1 : Int).toNat l1).flatten) ?_ q⟩
        have : (List.replicate (1 : Int).toNat l1).flatten = l1 := by
          show (List.replicate 1 l1).flatten = l1
          simp
        rw [this]
        exact ra
      replace h2 : 2 ≤ k := by omega
      refine op_repT pins s σ H _ _ v u Q I rx ry ⟨p1, k, xs1, rfl, rfl, s1, ?_, h2, h3, by rw [← r1.length]; exact h4, fun p hp => end_tup m hp (r1.flat _) q⟩
      rintro rfl
      cases r1
      exact h1 rfl
    · cases e
  · split at e
    · rename_i l1 l2 c1 c2
      split at e
      · rename_i hc
        obtain ⟨rfl, hz⟩ := hc
        cases e
        obtain ⟨p1, xs1, rfl, s1, r1⟩ := lst_at m ra c1
        obtain ⟨p2, xs2, rfl, s2, r2⟩ := lst_at m rb c2
        rw [r1.length, r2.length] at hz
        exact op_cat pins s σ H _ _ v u Q I rx ry ⟨p1, p2, xs1, xs2, rfl, rfl, s1, s2, hz, fun p hp => end_lst m hp (r1.append r2) q⟩
      · cases e
    · cases e
end
end MP
/-! MiniPy 4: comparisons, subscripts, slices, built-ins, methods by values. -/
namespace MP
open PySem PySem.Spec PyProof.Rows L2
variable [TabC]

/-! ### freezing, and data of any depth -/
section
variable {K : PySem.W.Frag} {φ : Ph} {H : Hp} {M : List D}
mutual
theorem dp_sub {g : Nat → Option D} (hg : ∀ k a d' pd, φ.f[k]? = some a → g k = some d' → toPD d' = some pd → Dp K H (.ref a) pd) :
    ∀ (d : D) (v : V) (d' : D) (pd : PyData), Rep K φ H d v → sub g d = some d' → toPD d' = some pd → Dp K H v pd
  | .non, _, _, _, h, e, t => by cases h; simp [sub] at e; subst e; simp [toPD] at t; subst t; exact .non
  | .bl b, _, _, _, h, e, t => by cases h; simp [sub] at e; subst e; simp [toPD] at t; subst t; exact .bl _
  | .int i, _, _, _, h, e, t => by cases h; simp [sub] at e; subst e; simp [toPD] at t; subst t; exact .int _
  | .str x, _, _, _, h, e, t => by cases h; simp [sub] at e; subst e; simp [toPD] at t; subst t; exact .str _
  | .ty n, _, _, _, h, e, t => by simp [sub] at e; subst e; simp [toPD] at t
  | .tup l, _, _, _, h, e, t => by
    simp [sub] at e
    obtain ⟨l', e, rfl⟩ := e
    simp [toPD] at t
    obtain ⟨ps, t, rfl⟩ := t
    obtain ⟨a, xs, rfl, s, r⟩ := h.sqT
    exact .tup s (dps_sub hg l xs l' ps r e t)
  | .lst l, _, _, _, h, e, t => by
    simp [sub] at e
    obtain ⟨l', e, rfl⟩ := e
    simp [toPD] at t
    obtain ⟨ps, t, rfl⟩ := t
    cases h with
    | lst h1 h2 r => exact .lst (SqL.of h1) (dps_sub hg l _ l' ps r e t)
  | .scr l, _, _, _, h, e, t => by
    simp [sub] at e
    obtain ⟨l', e, rfl⟩ := e
    simp [toPD] at t
  | .dct l, _, _, _, h, e, t => by
    simp [sub] at e
    obtain ⟨l', e, rfl⟩ := e
    simp [toPD] at t
  | .ref n, _, d', pd, h, e, t => by
    cases h with
    | ref h1 => exact hg n _ d' pd h1 (by simpa [sub] using e) t
theorem dps_sub {g : Nat → Option D} (hg : ∀ k a d' pd, φ.f[k]? = some a → g k = some d' → toPD d' = some pd → Dp K H (.ref a) pd) :
    ∀ (l : List D) (vs : List V) (l' : List D) (ps : List PyData), Reps K φ H l vs → subs g l = some l' → toPDs l' = some ps → DpAll K H vs ps
  | [], _, _, _, h, e, t => by cases h; simp [subs] at e; subst e; simp [toPDs] at t; subst t; exact .nil
  | d :: l, _, _, _, h, e, t => by
    cases h with
    | cons h1 h2 =>
      simp [subs, Option.bind_eq_some_iff] at e
      obtain ⟨d', e1, l', e2, rfl⟩ := e
      simp [toPDs, Option.bind_eq_some_iff] at t
      obtain ⟨p, t1, ps, t2, rfl⟩ := t
      exact .cons (dp_sub hg d _ d' p h1 e1 t1) (dps_sub hg l _ l' ps h2 e2 t2)
end
theorem dp_gf (m : MH K φ H M) : ∀ (n k : Nat) (a : Addr) (d' : D) (pd : PyData), φ.f[k]? = some a → gf M 0 n k = some d' → toPD d' = some pd → Dp K H (.ref a) pd
  | 0, k, a, d', pd, h, e, t => by simp [gf] at e
  | n + 1, k, a, d', pd, h, e, t => by
    simp [gf, Option.bind_eq_some_iff] at e
    obtain ⟨c, hc, e⟩ := e
    have ob := m.at_ k a c h hc
    cases ob with
    | lst h1 r =>
      simp [sub] at e
      obtain ⟨l', e, rfl⟩ := e
      simp [toPD] at t
      obtain ⟨ps, t, rfl⟩ := t
      exact .lst (SqL.of h1) (dps_sub (dp_gf m n) _ _ l' ps r e t)
    | dct0 h1 =>
      simp [sub] at e
      obtain ⟨l', e, rfl⟩ := e
      simp [toPD] at t
theorem dp_frz (m : MH K φ H M) {n : Nat} {d d' : D} {v : V} {pd : PyData} (r : Rep K φ H d v) (e : (frz M 0 n d) = some d') (t : toPD d' = some pd) : Dp K H v pd :=
  dp_sub (dp_gf m n) d v d' pd r e t
mutual
theorem rep_sub {g : Nat → Option D} {φ' : Ph} (hs : ∀ a, Out φ a → Out φ' a) (hg : ∀ k a d', φ.f[k]? = some a → g k = some d' → Rep K φ' H d' (.ref a)) :
    ∀ (d : D) (v : V) (d' : D), Rep K φ H d v → sub g d = some d' → Rep K φ' H d' v
  | .non, _, _, h, e => by cases h; simp [sub] at e; subst e; exact .non
  | .bl b, _, _, h, e => by cases h; simp [sub] at e; subst e; exact .bl _
  | .int i, _, _, h, e => by cases h; simp [sub] at e; subst e; exact .int _
  | .str x, _, _, h, e => by cases h; simp [sub] at e; subst e; exact .str _
  | .ty n, _, _, h, e => by cases h; simp [sub] at e; subst e; exact .ty _
  | .tup l, _, _, h, e => by
    simp [sub] at e
    obtain ⟨l', e, rfl⟩ := e
    cases h with
    | tup h1 h2 r => exact .tup h1 (hs _ h2) (reps_sub hs hg l _ l' r e)
    | tupK h1 h2 h3 h4 h5 r => exact .tupK h1 h2 h3 h4 h5 (reps_sub hs hg l _ l' r e)
  | .lst l, _, _, h, e => by
    simp [sub] at e
    obtain ⟨l', e, rfl⟩ := e
    cases h with
    | lst h1 h2 r => exact .lst h1 (hs _ h2) (reps_sub hs hg l _ l' r e)
  | .scr l, _, _, h, e => by
    simp [sub] at e
    obtain ⟨l', e, rfl⟩ := e
    cases h with
    | scr h1 r => exact .scr (h1.mp fun b o h _ n => ⟨h, hs b n⟩) (reps_sub hs hg l _ l' r e)
  | .dct l, _, _, h, e => by
    cases h with
    | dct0 h1 h2 =>
      simp [sub, subd] at e
      subst e
      exact .dct0 h1 (hs _ h2)
  | .ref n, _, d', h, e => by
    cases h with
    | ref h1 => exact hg n _ d' h1 (by simpa [sub] using e)
theorem reps_sub {g : Nat → Option D} {φ' : Ph} (hs : ∀ a, Out φ a → Out φ' a) (hg : ∀ k a d', φ.f[k]? = some a → g k = some d' → Rep K φ' H d' (.ref a)) :
    ∀ (l : List D) (vs : List V) (l' : List D), Reps K φ H l vs → subs g l = some l' → Reps K φ' H l' vs
  | [], _, _, h, e => by cases h; simp [subs] at e; subst e; exact .nil
  | d :: l, _, _, h, e => by
    cases h with
    | cons h1 h2 =>
      simp [subs, Option.bind_eq_some_iff] at e
      obtain ⟨d', e1, l', e2, rfl⟩ := e
      exact .cons (rep_sub hs hg d _ d' h1 e1) (reps_sub hs hg l _ l' h2 e2)
end
abbrev Ph.tk (φ : Ph) (n : Nat) : Ph := { φ with f := φ.f.take n }
theorem Out.tk {a : Addr} {n : Nat} (h : Out φ a) : Out (φ.tk n) a := ⟨fun z => h.1 (List.mem_of_mem_take z), h.2⟩
theorem take_ref {b k : Nat} {a : Addr} (h : φ.f[k]? = some a) (hk : k < b) : (φ.tk b).f[k]? = some a := by
  show (φ.f.take b)[k]? = some a
  rw [List.getElem?_take_of_lt hk]
  exact h
theorem not_take (m : MH K φ H M) {b k : Nat} {a : Addr} (h : φ.f[k]? = some a) (hk : ¬ k < b) : Out (φ.tk b) a := by
  refine ⟨fun hm => ?_, fun hb => (m.bar a hb).1 (List.mem_of_getElem? h)⟩
  have nd := m.nd
  replace hm : a ∈ φ.f.take b := hm
  obtain ⟨j, hj, e⟩ := List.mem_iff_getElem.mp hm
  have hj' : j < b ∧ j < φ.f.length := by
    rw [List.length_take] at hj
    omega
  have : φ.f[j]? = some a := by
    rw [List.getElem?_eq_getElem hj'.2]
    rw [List.getElem_take] at e
    rw [e]
  have := nd_ix' nd this h
  omega
theorem rep_gf (m : MH K φ H M) (b : Nat) : ∀ (n k : Nat) (a : Addr) (d' : D), φ.f[k]? = some a → gf M b n k = some d' → Rep K (φ.tk b) H d' (.ref a)
  | 0, k, a, d', h, e => by
    unfold gf at e
    by_cases hk : k < b
    · rw [if_pos hk] at e
      cases e
      exact .ref (take_ref h hk)
    · rw [if_neg hk] at e
      cases e
  | n + 1, k, a, d', h, e => by
    unfold gf at e
    by_cases hk : k < b
    · rw [if_pos hk] at e
      cases e
      exact .ref (take_ref h hk)
    · rw [if_neg hk, Option.bind_eq_some_iff] at e
      obtain ⟨c, hc, e⟩ := e
      cases m.at_ k a c h hc with
      | lst h1 r =>
        simp [sub] at e
        obtain ⟨l', e, rfl⟩ := e
        exact .lst h1 (not_take m h hk) (reps_sub (fun a ha => ha.tk) (rep_gf m b n) _ _ l' r e)
      | dct0 h1 =>
        simp [sub, subd] at e
        subst e
        exact .dct0 h1 (not_take m h hk)
theorem rep_frz (m : MH K φ H M) {b n : Nat} {d d' : D} {v : V} (r : Rep K φ H d v) (e : frz M b n d = some d') : Rep K (φ.tk b) H d' v :=
  rep_sub (fun a ha => ha.tk) (rep_gf m b n) d v d' r e
mutual
theorem rep_bel {b : Nat} : ∀ (d : D) (v : V), Rep K φ H d v → bel b d = true → Rep K (φ.tk b) H d v
  | .non, _, h, _ => by cases h; exact .non
  | .bl _, _, h, _ => by cases h; exact .bl _
  | .int _, _, h, _ => by cases h; exact .int _
  | .str _, _, h, _ => by cases h; exact .str _
  | .ty _, _, h, _ => by cases h; exact .ty _
  | .tup l, _, h, e => by
    have e' : bels b l = true := by simpa [bel] using e
    cases h with
    | tup h1 h2 r => exact .tup h1 h2.tk (reps_bel l _ r e')
    | tupK h1 h2 h3 h4 h5 r => exact .tupK h1 h2 h3 h4 h5 (reps_bel l _ r e')
  | .lst l, _, h, e => by
    have e' : bels b l = true := by simpa [bel] using e
    cases h with
    | lst h1 h2 r => exact .lst h1 h2.tk (reps_bel l _ r e')
  | .scr l, _, h, e => by
    have e' : bels b l = true := by simpa [bel] using e
    cases h with
    | scr h1 r => exact .scr (h1.mp fun b o h _ n => ⟨h, n.tk⟩) (reps_bel l _ r e')
  | .dct l, _, h, e => by
    cases h with
    | dct0 h1 h2 => exact .dct0 h1 h2.tk
  | .ref n, _, h, e => by
    cases h with
    | ref h1 => exact .ref (take_ref h1 (by simpa [bel] using e))
theorem reps_bel {b : Nat} : ∀ (l : List D) (vs : List V), Reps K φ H l vs → bels b l = true → Reps K (φ.tk b) H l vs
  | [], _, h, _ => by cases h; exact .nil
  | d :: l, _, h, e => by
    have e' : bel b d = true ∧ bels b l = true := by simpa [bels] using e
    cases h with
    | cons h1 h2 => exact .cons (rep_bel d _ h1 e'.1) (reps_bel l _ h2 e'.2)
end
mutual
theorem bel_rep : ∀ (d : D) (v : V), Rep K φ H d v → bel φ.f.length d = true
  | .non, _, _ => by simp [bel]
  | .bl _, _, _ => by simp [bel]
  | .int _, _, _ => by simp [bel]
  | .str _, _, _ => by simp [bel]
  | .ty _, _, _ => by simp [bel]
  | .tup l, _, h => by
    obtain ⟨a, xs, rfl, s, r⟩ := h.sqT
    simpa [bel] using bels_rep l _ r
  | .lst l, _, h => by
    cases h with
    | lst h1 h2 r => simpa [bel] using bels_rep l _ r
  | .scr l, _, h => by
    cases h with
    | scr h1 r => simpa [bel] using bels_rep l _ r
  | .dct l, _, h => by
    cases h with
    | dct0 h1 h2 => simp [bel, beld]
  | .ref n, _, h => by
    cases h with
    | ref h1 => simpa [bel] using (List.getElem?_eq_some_iff.mp h1).1
theorem bels_rep : ∀ (l : List D) (vs : List V), Reps K φ H l vs → bels φ.f.length l = true
  | [], _, _ => by simp [bels]
  | d :: l, _, h => by
    cases h with
    | cons h1 h2 => simp [bels, bel_rep d _ h1, bels_rep l _ h2]
end
theorem bels_all {b : Nat} : ∀ {l : List D}, (∀ d ∈ l, bel b d = true) → bels b l = true
  | [], _ => by simp [bels]
  | d :: l, h => by
    simp [bels, h d List.mem_cons_self, bels_all (l := l) fun x hx => h x (List.mem_cons_of_mem _ hx)]
theorem bel_mem {b : Nat} : ∀ {l : List D}, bels b l = true → ∀ d ∈ l, bel b d = true
  | [], _, d, h => by cases h
  | x :: l, e, d, h => by
    have e' : bel b x = true ∧ bels b l = true := by simpa [bels] using e
    rcases List.mem_cons.mp h with rfl | h
    · exact e'.1
    · exact bel_mem e'.2 d h
/-- the heap of all places looks at places that are -/
theorem MH.bel {M : List D} (m : MH K φ H M) : bels φ.f.length M = true := by
  refine bels_all fun d hd => ?_
  obtain ⟨n, hn, e⟩ := List.mem_iff_getElem.mp hd
  have hn' : n < φ.f.length := by rw [m.len]; exact hn
  cases m.at_ n _ d (List.getElem?_eq_getElem hn') (by rw [List.getElem?_eq_getElem hn, e]) with
  | lst h1 r => simpa [MP.bel] using bels_rep _ _ r
  | dct0 h1 => simp [MP.bel, beld]
/-- the elder part stands for itself -/
theorem MH.take {M : List D} (m : MH K φ H M) {b : Nat} (h : bels b (M.take b) = true) : MH K (φ.tk b) H (M.take b) := by
  refine ⟨m.nd.sublist (List.take_sublist _ _), by simp [m.len], fun b' hb => ⟨fun z => (m.bar b' hb).1 (List.mem_of_mem_take z), (m.bar b' hb).2⟩, m.tab, fun n a d h1 h2 => ?_⟩
  replace h1 : (φ.f.take b)[n]? = some a := h1
  have hb : n < b := by
    have := (List.getElem?_eq_some_iff.mp h1).1
    rw [List.length_take] at this
    omega
  rw [List.getElem?_take_of_lt hb] at h1
  have hd := bel_mem h d (List.mem_of_getElem? h2)
  rw [List.getElem?_take_of_lt hb] at h2
  cases m.at_ n a d h1 h2 with
  | lst h3 r => exact .lst h3 (reps_bel _ _ r (by simpa [MP.bel] using hd))
  | dct0 h3 => exact .dct0 h3
end

/-! ### comparisons -/
def cpOf : Cop → CmpOp
  | .eq => .Eq | .ne => .NotEq | .lt => .Lt | .le => .LtE | .gt => .Gt | .ge => .GtE | .inn => .In | .nin => .NotIn | .isx => .Is | .isn => .IsNot
section
variable {K : PySem.W.Frag} {φ : Ph} {H : Hp} {M : List D}
theorem eqS_dp (m : MH K φ H M) {a b : D} {x y : V} {k : Bool} (ra : Rep K φ H a x) (rb : Rep K φ H b y) (e : eqS M a b = some k) :
    ∃ d e', Dp K H x d ∧ Dp K H y e' ∧ SeqAt.shaped d = true ∧ SeqAt.shaped e' = true ∧ k = PyData.eqv d e' := by
  unfold eqS at e
  split at e
  · rename_i p q hp hq
    rw [Option.bind_eq_some_iff] at hp hq
    obtain ⟨a', fa, ta⟩ := hp
    obtain ⟨b', fb, tb⟩ := hq
    split at e
    · rename_i hs
      cases e
      rw [Bool.and_eq_true] at hs
      exact ⟨p, q, dp_frz m ra fa ta, dp_frz m rb fb tb, hs.1, hs.2, rfl⟩
    · cases e
  · cases e
theorem flat_rep {a : D} {x : V} (r : Rep K φ H a x) (h : flat a = true) : flatV x = true := by
  cases r <;> first | rfl | (simp [flat] at h)
theorem flats_rep : ∀ {l : List D} {xs : List V}, Reps K φ H l xs → l.all flat = true → xs.all flatV = true
  | [], _, h, _ => by cases h; rfl
  | d :: l, _, h, e => by
    cases h with
    | cons h1 h2 =>
      rw [List.all_cons, Bool.and_eq_true] at e ⊢
      exact ⟨flat_rep h1 e.1, flats_rep h2 e.2⟩
theorem eqFl_rep {a b : D} {x y : V} (ra : Rep K φ H a x) (rb : Rep K φ H b y) (ha : flat a = true) (hb : flat b = true) : eqFl a b = eqV x y := by
  cases ra <;> first | (simp [flat] at ha; done) | skip
  all_goals (cases rb <;> first | (simp [flat] at hb; done) | rfl)
theorem any_rep {b : D} {y : V} (rb : Rep K φ H b y) (hb : flat b = true) : ∀ {l : List D} {xs : List V}, Reps K φ H l xs → l.all flat = true → (l.any fun z => eqFl z b) = inV y xs
  | [], _, h, _ => by cases h; rfl
  | d :: l, _, h, e => by
    cases h with
    | cons h1 h2 =>
      rw [List.all_cons, Bool.and_eq_true] at e
      unfold inV
      rw [List.any_cons, List.any_cons, eqFl_rep h1 rb e.1 hb, any_rep rb hb h2 e.2]
      rfl
end
theorem ints_of {K : PySem.W.Frag} {φ : Ph} {H : Hp} {a b : D} {x y : V} {k : Bool} (p : Int → Int → Bool) (ra : Rep K φ H a x) (rb : Rep K φ H b y)
    (hp : twoI p a b = some k) : ∃ i j, x = .int i ∧ y = .int j ∧ k = p i j := by
  cases ra <;> cases rb <;> first | (cases hp; exact ⟨_, _, rfl, rfl, rfl⟩) | cases hp
theorem is_cases {K : PySem.W.Frag} {φ : Ph} {H : Hp} {a b : D} {x y : V} {k : Bool} (ra : Rep K φ H a x) (rb : Rep K φ H b y) (e : isS a b = some k) :
    (∃ i j, x = .bl i ∧ y = .bl j ∧ k = decide (i = j)) ∨ (∃ i j, x = .ty i ∧ y = .ty j ∧ k = decide (i = j)) ∨ (y = .non ∧ k = decide (x = .non)) := by
  cases rb with
  | non => cases ra <;> simp [isS] at e <;> exact .inr (.inr ⟨rfl, by simp [← e]⟩)
  | bl j => cases ra <;> simp [isS] at e <;> exact .inl ⟨_, _, rfl, rfl, by simp [← e]⟩
  | ty j => cases ra <;> simp [isS] at e <;> exact .inr (.inl ⟨_, _, rfl, rfl, by simp [← e]⟩)
  | _ => cases ra <;> simp [isS] at e
section
variable {X : Cx}
theorem or_cmp (hu : X.A.units + 64 < cLine) (o : Cop) : OpR X (compareOp (cpOf o)) (rO X.K fun M x y => (cmpS M o x y).map .bl) := by
  intro pins s σ H x y v u Q I rx ry h
  obtain ⟨φ, M, a, b, d, m, ra, rb, e, q⟩ := h
  replace e : (cmpS M o a b).map .bl = some d := e
  rw [Option.map_eq_some_iff] at e
  obtain ⟨k, e, rfl⟩ := e
  have fin : Q (.bl k) H := end_same m (.bl k) q
  have hIn : ∀ {neg : Bool}, inS M neg a b = some k → rIn X.K neg x y H Q := by
    intro neg hp
    unfold inS at hp
    split at hp
    · rename_i l hl
      split at hp
      · rename_i hf
        rw [Bool.and_eq_true] at hf
        cases tup_at m rb hl
        obtain ⟨p, xs, rfl, sq, r⟩ := rb.sqT
        refine ⟨p, xs, rfl, .inr sq, flat_rep ra hf.1, flats_rep r hf.2, ?_⟩
        rw [← any_rep ra hf.1 r hf.2]
        cases hp
        cases neg <;> simpa using fin
      · cases hp
    · rename_i l hl
      split at hp
      · rename_i hf
        rw [Bool.and_eq_true] at hf
        obtain ⟨p, xs, rfl, sq, r⟩ := lst_at m rb hl
        refine ⟨p, xs, rfl, .inl (SqL.of sq), flat_rep ra hf.1, flats_rep r hf.2, ?_⟩
        rw [← any_rep ra hf.1 r hf.2]
        cases hp
        cases neg <;> simpa using fin
      · cases hp
    · cases hp
  cases o with
  | eq =>
    obtain ⟨d1, d2, h1, h2, s1, s2, rfl⟩ := eqS_dp m ra rb e
    exact op_eqD hu pins s σ H _ _ v u Q I rx ry ⟨d1, d2, h1, h2, s1, s2, fin⟩
  | ne =>
    replace e : (eqS M a b).map not = some k := e
    rw [Option.map_eq_some_iff] at e
    obtain ⟨k', e', rfl⟩ := e
    obtain ⟨d1, d2, h1, h2, s1, s2, rfl⟩ := eqS_dp m ra rb e'
    exact op_neD hu pins s σ H _ _ v u Q I rx ry ⟨d1, d2, h1, h2, s1, s2, fin⟩
  | lt =>
    obtain ⟨i, j, rfl, rfl, rfl⟩ := ints_of (fun i j => decide (i < j)) ra rb e
    exact op_lt pins s σ H _ _ v u Q I rx ry ⟨i, j, rfl, rfl, fin⟩
  | le =>
    obtain ⟨i, j, rfl, rfl, rfl⟩ := ints_of (fun i j => decide (i ≤ j)) ra rb e
    exact op_le pins s σ H _ _ v u Q I rx ry ⟨i, j, rfl, rfl, fin⟩
  | gt =>
    obtain ⟨i, j, rfl, rfl, rfl⟩ := ints_of (fun i j => decide (j < i)) ra rb e
    exact op_gt pins s σ H _ _ v u Q I rx ry ⟨i, j, rfl, rfl, fin⟩
  | ge =>
    obtain ⟨i, j, rfl, rfl, rfl⟩ := ints_of (fun i j => decide (j ≤ i)) ra rb e
    exact op_ge pins s σ H _ _ v u Q I rx ry ⟨i, j, rfl, rfl, fin⟩
  | inn => exact op_in_seq pins s σ H _ _ v u Q I rx ry (hIn (neg := false) e)
  | nin => exact op_notIn_seq pins s σ H _ _ v u Q I rx ry (hIn (neg := true) e)
  | isx =>
    rcases is_cases ra rb e with ⟨i, j, rfl, rfl, rfl⟩ | ⟨i, j, rfl, rfl, rfl⟩ | ⟨rfl, rfl⟩
    · exact op_is_bl pins s σ H _ _ v u Q I rx ry ⟨i, j, rfl, rfl, fin⟩
    · exact op_isTy pins s σ H _ _ v u Q I rx ry ⟨i, j, rfl, rfl, fin⟩
    · exact op_isN pins s σ H _ _ v u Q I rx ry ⟨rfl, fin⟩
  | isn =>
    replace e : (isS a b).map not = some k := e
    rw [Option.map_eq_some_iff] at e
    obtain ⟨k', e', rfl⟩ := e
    rcases is_cases ra rb e' with ⟨i, j, rfl, rfl, rfl⟩ | ⟨i, j, rfl, rfl, rfl⟩ | ⟨rfl, rfl⟩
    · exact op_isnot_bl pins s σ H _ _ v u Q I rx ry ⟨i, j, rfl, rfl, fin⟩
    · exact op_isNotTy pins s σ H _ _ v u Q I rx ry ⟨i, j, rfl, rfl, fin⟩
    · exact op_notN pins s σ H _ _ v u Q I rx ry ⟨rfl, fin⟩

/-! ### truth -/
theorem tru_rep {φ : Ph} {M : List D} {H : Hp} {a : D} {x : V} {k : Bool} (m : MH X.K φ H M) (ra : Rep X.K φ H a x) (e : truth M a = some k) : TruV X.K x H k := by
  unfold truth at e
  split at e
  · rename_i h
    cases scal_at m ra h (fun _ _ _ => ⟨by simp, by simp⟩)
    cases ra
    cases e
    rfl
  · rename_i b h
    cases scal_at m ra h (fun _ _ _ => ⟨by simp, by simp⟩)
    cases ra
    cases e
    rfl
  · rename_i i h
    cases scal_at m ra h (fun _ _ _ => ⟨by simp, by simp⟩)
    cases ra
    cases e
    rfl
  · rename_i l h
    cases tup_at m ra h
    obtain ⟨p, xs, rfl, sq, r⟩ := ra.sqT
    cases e
    refine .inr (.inl ⟨xs, sq, ?_⟩)
    cases r <;> rfl
  · rename_i l h
    obtain ⟨p, xs, rfl, sq, r⟩ := lst_at m ra h
    cases e
    refine .inl ⟨xs, SqL.of sq, ?_⟩
    cases r <;> rfl
  · rename_i l h
    cases scr_at m ra h
    cases ra with
    | scr h1 r =>
      cases e
      refine .inl ⟨_, h1.sq, ?_⟩
      cases r <;> rfl
  · cases e

/-! ### subscripts, slices -/
theorem atI_rep {φ : Ph} {H : Hp} {l : List D} {xs : List V} {i : Int} {d : D} (r : Reps X.K φ H l xs) (e : atI l i = some d) : ∃ v, atI xs i = some v ∧ Rep X.K φ H d v := by
  unfold atI at e ⊢
  rw [Option.bind_eq_some_iff] at e
  obtain ⟨j, e1, e2⟩ := e
  obtain ⟨v, h1, h2⟩ := r.get e2
  refine ⟨v, ?_, h2⟩
  rw [← r.length, e1]
  exact h1
theorem or_idx : IxR X (rO X.K fun M x y => idxS M x y) := by
  intro value slice pins s σ H x y v u Q I rx ry h hs
  obtain ⟨φ, M, a, b, d, m, ra, rb, e, q⟩ := h
  replace e : idxS M a b = some d := e
  unfold idxS at e
  split at e
  · rename_i l i hl
    cases tup_at m ra hl
    cases rb
    obtain ⟨p, xs, rfl, sq, r⟩ := ra.sqT
    obtain ⟨w, h1, h2⟩ := atI_rep r e
    exact ix_tup value slice pins s σ H _ _ v u Q I rx ry ⟨p, xs, i, w, rfl, rfl, sq, h1, end_same m h2 q⟩ hs
  · rename_i l i hl
    cases rb
    obtain ⟨p, xs, rfl, sq, r⟩ := lst_at m ra hl
    obtain ⟨w, h1, h2⟩ := atI_rep r e
    exact ix_list value slice pins s σ H _ _ v u Q I rx ry ⟨p, xs, i, w, rfl, rfl, SqL.of sq, h1, end_same m h2 q⟩ hs
  · rename_i l i hl
    cases rb
    cases scr_at m ra hl
    cases ra with
    | scr k1 r =>
      obtain ⟨w, h1, h2⟩ := atI_rep r e
      exact ix_list value slice pins s σ H _ _ v u Q I rx ry ⟨_, _, i, w, rfl, rfl, k1.sq, h1, end_same m h2 q⟩ hs
  · cases e
theorem cut_rep {φ : Ph} {H : Hp} {l : List D} {xs : List V} (r : Reps X.K φ H l xs) (lo hi : Option Int) : Reps X.K φ H (cutD l lo hi) (cutV xs lo hi) := by
  unfold cutD cutV
  rw [r.length]
  exact (r.drop _).take _
theorem or_slc : SlR X (fun x lo hi H Q => ∃ φ M a d, MH X.K φ H M ∧ Rep X.K φ H a x ∧ slcS M a lo hi = some d ∧
    ∀ φ' H' v, Ext φ H φ' H' → MH X.K φ' H' M → Rep X.K φ' H' d v → Q v H') := by
  intro pins s σ H x v vl vu lo hi sl Q I rx hs pl pu h
  obtain ⟨φ, M, a, d, m, ra, e, q⟩ := h
  unfold slcS at e
  split at e
  · rename_i l hl
    cases tup_at m ra hl
    cases e
    obtain ⟨p, xs, rfl, sq, r⟩ := ra.sqT
    refine sl_tupA pins s σ H _ v vl vu lo hi sl Q I rx hs pl pu ⟨p, xs, rfl, sq, fun hw => end_same (d := .tup (cutD l lo hi)) m ?_ q, fun _ p hp => end_tup m hp (cut_rep r lo hi) q⟩
    have : cutD l lo hi = l := by
      unfold cutD
      rw [r.length, hw.1, hw.2]
      rw [List.drop_zero, Nat.sub_zero]
      exact List.take_of_length_le (by rw [r.length]; exact Nat.le_refl _)
    rw [this]
    exact ra
  · rename_i l hl
    cases e
    obtain ⟨p, xs, rfl, sq, r⟩ := lst_at m ra hl
    exact sl_list pins s σ H _ v vl vu lo hi sl Q I rx hs pl pu ⟨p, xs, rfl, SqL.of sq, fun p hp => end_lst m hp (cut_rep r lo hi) q⟩
  · rename_i l hl
    cases e
    cases scr_at m ra hl
    cases ra with
    | scr k1 r => exact sl_list pins s σ H _ v vl vu lo hi sl Q I rx hs pl pu ⟨_, _, rfl, k1.sq, fun p hp => end_lst m hp (cut_rep r lo hi) q⟩
  · cases e
theorem ps_setS : PSet X (fun o i v H Q => ∃ φ M a b c M', MH X.K φ H M ∧ Rep X.K φ H a o ∧ Rep X.K φ H b i ∧ Rep X.K φ H c v ∧ setS M a b c = some M' ∧
    ∀ H', Ext φ H φ H' → MH X.K φ H' M' → Q H') := by
  intro pins s σ H o i v ov iv u Q I ro ri rv h
  obtain ⟨φ, M, a, b, c, M', m, ra, rb, rc, e, q⟩ := h
  unfold setS at e
  split at e
  · rename_i n k
    cases rb
    cases ra with
    | @ref n a h1 =>
      split at e
      · rename_i l hl
        rw [Option.map_eq_some_iff] at e
        obtain ⟨j, e, rfl⟩ := e
        have ob := m.at_ n a _ h1 hl
        cases ob with
        | @lst _ xs _ h2 r =>
          refine set_list pins s σ H _ _ v ov iv u Q I ro ri rv ⟨a, xs, k, j, rfl, rfl, h2, by rw [← r.length]; exact e, ?_⟩
          have ex : Ext φ H φ (upd H a (.lst (xs.set j v))) := Ext.set (M := M) h1
          exact q _ ex (m.set h1 (.lst upd_same (Reps.ext ex _ _ (r.set rc j))))
      · cases e
  · cases e
end
end MP
/-! MiniPy 4b: t[::-1] for a tuple or a list. -/
namespace MP
open PySem PySem.Spec PyProof.Rows L2 HT
section
variable {prog : Program} {w : World} {A : Around} {E : Value → Shared → Prop} {s : Shared}
theorem adjust_rev (n : Nat) : Builtin.Slice.sliceAdjust none none (-1) (n : Int) = ((n : Int) - 1, -1) := by
  unfold Builtin.Slice.sliceAdjust
  simp
theorem places_rev (n : Nat) : Builtin.Slice.slicePlaces ((n : Int) - 1) (-1) (-1) = n := by
  unfold Builtin.Slice.slicePlaces
  simp
  try omega
theorem sliceApplied_rev {sl : Addr} {vl vu vs : Value} {n : Nat} {Q : Int × Int × Nat → Shared → Prop} (hs : s.heap.IsSliceOf sl vl vu vs) (pl : IsPart vl none) (pu : IsPart vu none) (ps : IsPart vs (some (-1)))
    (h : Q ((n : Int) - 1, -1, n) s) : wpAny (model prog w) A (Builtin.Slice.sliceApplied (.ref sl) (pure (n : Int))) Q E s := by
  obtain ⟨os, hos, hcs, hds⟩ := id hs
  unfold Builtin.Slice.sliceApplied Builtin.Slice.sliceFields
  refine wpAny_bind (wpAny_bind (wpAny_field hos hds (x := vl) rfl (wpAny_bind (wpAny_field hos hds (x := vu) rfl (wpAny_bind (wpAny_field hos hds (x := vs) rfl (wpAny_pure ?_)))))))
  refine wpAny_bind (slicePart_ ps ?_)
  show wpAny _ _ (if ((-1 : Int) == 0) = true then _ else _) _ _ s
  rw [if_neg (by decide)]
  refine wpAny_bind (slicePart_ pl (wpAny_bind (slicePart_ pu (wpAny_bind (wpAny_pure ?_)))))
  show wpAny _ _ (match Builtin.Slice.sliceAdjust none none (-1) (n : Int) with | (lo, hi) => pure (lo, (-1 : Int), Builtin.Slice.slicePlaces lo hi (-1))) _ _ s
  rw [adjust_rev n]
  show wpAny _ _ (pure (((n : Int) - 1), (-1 : Int), Builtin.Slice.slicePlaces ((n : Int) - 1) (-1) (-1))) _ _ s
  rw [places_rev]
  exact wpAny_pure h
theorem fm_congr {α β : Type} {f g : α → Option β} : ∀ {l : List α}, (∀ m, m ∈ l → f m = g m) → l.filterMap f = l.filterMap g
  | [], _ => rfl
  | a :: r, h => by
    rw [List.filterMap_cons, List.filterMap_cons, h a (List.mem_cons_self ..), fm_congr fun m hm => h m (List.mem_cons_of_mem _ hm)]
theorem pick_rev (xs : Array Value) : ((List.range xs.size).filterMap fun (m : Nat) => xs[(((xs.size : Int) - 1) + (m : Int) * (-1)).toNat]?).toArray = xs.toList.reverse.toArray := by
  have e := PySem.W.krv_pick xs
  unfold slicePick at e
  rw [PySem.W.krv_bounds] at e
  rw [← e]
  show _ = ((sliceRange ((xs.size : Int) - 1) (-1) (-1)).filterMap (xs[·]?)).toArray
  rw [PySem.W.krv_sliceRange, List.filterMap_map]
  congr 1
  refine fm_congr fun m hm => ?_
  have : (((xs.size : Int) - 1) + (m : Int) * (-1)).toNat = xs.size - 1 - m := by
    have := List.mem_range.mp hm
    omega
  rw [this]
  rfl
theorem getItem_tuple_rev {t sl : Addr} {items : Array Value} {vl vu vs : Value} {Q : Value → Shared → Prop} (ht : IsTup s.heap t items) (hs : s.heap.IsSliceOf sl vl vu vs) (pl : IsPart vl none) (pu : IsPart vu none) (ps : IsPart vs (some (-1)))
    (h : Q (.ref s.heap.objs.size) { s with heap := s.heap.push { cls := .type "tuple", data := .seq items.toList.reverse.toArray } })
    (hsz : items.size ≤ sizeLine) : wpAny (model prog w) A (getItem (.ref t) (.ref sl)) Q E s := by
  have htake : sizeOk (.seq items.toList.reverse.toArray) := by
    show items.toList.reverse.toArray.size ≤ sizeLine
    rw [List.size_toArray, List.length_reverse, Array.length_toList]
    exact hsz
  obtain ⟨os, hos, hcs, hds⟩ := id hs
  have hTs : s.TypeIs (.ref sl) "slice" := ⟨os, hos, hcs⟩
  unfold getItem
  try with_reducible refine wpAny_holding ?_
  first | refine wpAny_bind (wpAny_pure ?_) | skip
  refine wpAny_bind (wpAny_sequenceKey ht.typeIs (by decide) ?_)
  refine wpAny_bind (wpAny_callSpecial?_slot (name := Str.ofString "__getitem__") ht.typeIs PyProof.Rows.slot_tuple_getitem
    (wpAny_call_entry PyProof.Rows.slot_tuple_getitem ht.typeIs entry_tuple_getitem ?_ (args_tuple_getitem _ _)))
  show wpAny _ _ (Builtin.Tuple.tupleItemsOf (.ref t) >>= _) _ _ s
  refine wpAny_bind (tupleItemsOf_ ht ?_)
  refine wpAny_bind (wpAny_typeOf hTs ?_)
  rw [if_pos (by decide)]
  refine wpAny_bind (sliceApplied_rev hs pl pu ps ?_)
  have hno : ¬ ((((items.size : Int) - 1) == 0 && (-1 : Int) == 1 && items.size == items.size) = true) := by
    intro q
    rw [Bool.and_eq_true, Bool.and_eq_true] at q
    exact absurd q.1.2 (by decide)
  show wpAny _ _ (if (((items.size : Int) - 1) == 0 && (-1 : Int) == 1 && items.size == items.size) = true then _ else _) _ _ s
  rw [if_neg hno, pick_rev]
  first
    | exact wpAny_bind (m := Builtin.Tuple.tupleExact _) (wpAny_newObj_type (wpAny_pure ⟨_, rfl, wpAny_pure h⟩) htake)
    | exact wpAny_bind (m := Builtin.Tuple.tupleExact _) (wpAny_newObj_type (wpAny_bind (wpAny_pure (wpAny_pure ⟨_, rfl, wpAny_pure h⟩))) htake)
    | exact wpAny_bind (wpAny_bind (m := Builtin.Tuple.tupleExact _) (wpAny_newObj_type (wpAny_pure (wpAny_pure ⟨_, rfl, wpAny_pure h⟩)) htake))
    | exact wpAny_bind (wpAny_bind (m := Builtin.Tuple.tupleExact _) (wpAny_newObj_type (wpAny_pure ⟨_, rfl, wpAny_pure h⟩) htake))
end
section
variable {X : Cx}
/-- xs[::-1], a tuple or a list -/
def tRevA (K : PySem.W.Frag) (te : TE) : TE := fun σ H Q => te σ H fun x H1 =>
  (∃ a xs, x = .ref a ∧ SqL K H1 a xs ∧ ∀ p, H1 p = none → Q (.ref p) (upd H1 p (.lst xs.reverse))) ∨
  (∃ a xs, x = .ref a ∧ SqT K H1 a xs ∧ ∀ p, H1 p = none → Q (.ref p) (upd H1 p (.tup xs.reverse)))
theorem pe_revA {e : Expr} {te : TE} {k : Nat} {p1 p2 p3 pos : Pos} (he : PE X e te) : PE X (.Subscript e (.Slice none none (some (.UnaryOp .USub (.Constant (.int 1) k p1) p2)) p3) pos) (tRevA X.K te) := by
  refine ⟨fun pins s σ H Q I h => ?_⟩
  refine Subscript_ (thn (he.run pins s σ H _ I h) fun v s1 ⟨x, H1, I1, r1, q1⟩ => ?_)
  have hst : PO X (some (.UnaryOp .USub (.Constant (.int 1) k p1) p2)) (tPart (tUn (rU fun i => .int (-i)) (tC (.int 1)))) := po_some (pe_un un_neg pe_int)
  refine wpAny_Slice (thn (po_none.run pins s1 σ H1 (fun o H2 => o = none ∧ H2 = H1) I1 ⟨rfl, rfl⟩) fun vl s2 ⟨l, H2, I2, pl, el, e2⟩ => ?_)
  subst el e2
  refine thn (po_none.run pins s2 σ H2 (fun o H3 => o = none ∧ H3 = H2) I2 ⟨rfl, rfl⟩) fun vu s3 ⟨u, H3, I3, pu, eu, e3⟩ => ?_
  subst eu e3
  refine thn (hst.run pins s3 σ H3 (fun o H4 => o = some (-1) ∧ H4 = H3) I3 ⟨1, rfl, -1, rfl, rfl, rfl⟩) fun vs s4 ⟨o, H4, I4, ps, eo, e4⟩ => ?_
  subst eo e4
  have I5 : Inv X pins σ H4 { s4 with heap := s4.heap.push { cls := .type "slice", data := .fields #[vl, vu, vs] } } := I4.kept (t' := s4.toks) fun b ob q => Heap.get?_push_of_some _ q
  rcases q1 with ⟨a, xs, ex, hx, q⟩ | ⟨a, xs, ex, hx, q⟩
  · subst ex
    cases r1
    obtain ⟨its, r, ht, hz⟩ := I5.list hx
    have hlen := r.length
    show wpAny (model X.prog X.w) X.A (subscriptTail e (.Slice none none (some (.UnaryOp .USub (.Constant (.int 1) k p1) p2)) p3) (.ref a) (.ref s4.heap.objs.size)) (EP X pins σ Q) X.xe { s4 with heap := s4.heap.push { cls := .type "slice", data := .fields #[vl, vu, vs] } }
    refine tail_any (ops := [.ref a, .ref s4.heap.objs.size]) ht.isList.typeIs (PySem.slot_list_getitem.lookup) ?_ (by with_unfolding_all rfl)
    refine wpAny_getItem_list_slice ht.isList (Heap.IsSliceOf.new _ vl vu vs) pl pu ps (by decide) ?_ (by rw [List.size_toArray]; omega)
    rw [PySem.W.krv_pick]
    refine ⟨.ref _, _, I5.laid (t' := s4.toks) (o := .lst xs.reverse) (fun b ob q => Heap.get?_push_of_some _ q) (Nat.le_refl _) ?_, rfl, q _ (I5.hok.fresh (Nat.le_refl _))⟩
    exact ⟨by rw [List.length_reverse]; exact hz, _, 0, r.reverse, Heap.get?_push_size _ rfl⟩
  · subst ex
    cases r1
    obtain ⟨its, r, ht, hz⟩ := I5.tuple hx
    have hlen := r.length
    show wpAny (model X.prog X.w) X.A (subscriptTail e (.Slice none none (some (.UnaryOp .USub (.Constant (.int 1) k p1) p2)) p3) (.ref a) (.ref s4.heap.objs.size)) (EP X pins σ Q) X.xe { s4 with heap := s4.heap.push { cls := .type "slice", data := .fields #[vl, vu, vs] } }
    refine tail_any (ops := [.ref a, .ref s4.heap.objs.size]) ht.typeIs (PyProof.Rows.slot_tuple_getitem.lookup) ?_ (by with_unfolding_all rfl)
    refine getItem_tuple_rev ht (Heap.IsSliceOf.new _ vl vu vs) pl pu ps ?_ (by rw [List.size_toArray]; omega)
    refine ⟨.ref _, _, I5.laid (t' := s4.toks) (o := .tup xs.reverse) (fun b ob q => Heap.get?_push_of_some _ q) (Nat.le_refl _) ?_, rfl, q _ (I5.hok.fresh (Nat.le_refl _))⟩
    exact ⟨by rw [List.length_reverse]; exact hz, _, r.reverse, IsTup.new _ _⟩
end
end MP
/-! MiniPy 5: built-ins and methods by values. -/
namespace MP
open PySem PySem.Spec PyProof.Rows L2
variable [TabC]

section
variable {K : PySem.W.Frag} {φ : Ph} {H : Hp} {M : List D}
theorem lstOf_at {x : D} {v : V} {l : List D} (m : MH K φ H M) (r : Rep K φ H x v) (h : lstOf M x = some l) : ∃ a xs, v = .ref a ∧ H a = some (.lst xs) ∧ Reps K φ H l xs := by
  unfold lstOf at h
  split at h
  · rename_i l' h'
    cases h
    exact lst_at m r h'
  · cases h
theorem lstI_at {x : D} {v : V} {ns : List Int} (m : MH K φ H M) (r : Rep K φ H x v) (h : (lstOf M x).bind allInts = some ns) : ∃ a, v = .ref a ∧ H a = some (.lst (ns.map V.int)) := by
  rw [Option.bind_eq_some_iff] at h
  obtain ⟨l, h1, h2⟩ := h
  obtain ⟨a, xs, rfl, h3, h4⟩ := lstOf_at m r h1
  rw [(h4.ints h2).1] at h3
  exact ⟨a, rfl, h3⟩
theorem lstB_at {x : D} {v : V} {ns : List Bool} (m : MH K φ H M) (r : Rep K φ H x v) (h : (lstOf M x).bind allBls = some ns) : ∃ a, v = .ref a ∧ H a = some (.lst (ns.map V.bl)) := by
  rw [Option.bind_eq_some_iff] at h
  obtain ⟨l, h1, h2⟩ := h
  obtain ⟨a, xs, rfl, h3, h4⟩ := lstOf_at m r h1
  rw [(h4.bls h2).1] at h3
  exact ⟨a, rfl, h3⟩
theorem leastI_mem : ∀ (l : List Int) (m : Int), leastI m l ∈ m :: l ∧ ∀ y ∈ m :: l, leastI m l ≤ y
  | [], m => by simp [leastI]
  | x :: r, m => by
    unfold leastI
    obtain ⟨h1, h2⟩ := leastI_mem r (if x < m then x else m)
    refine ⟨?_, fun y hy => ?_⟩
    · rcases List.mem_cons.mp h1 with e | e
      · rw [e]
        split <;> simp
      · exact List.mem_cons_of_mem _ (List.mem_cons_of_mem _ e)
    · have h0 := h2 _ List.mem_cons_self
      have hc : (if x < m then x else m) ≤ m ∧ (if x < m then x else m) ≤ x := by constructor <;> split <;> omega
      rcases List.mem_cons.mp hy with rfl | hy
      · exact Int.le_trans h0 hc.1
      · rcases List.mem_cons.mp hy with rfl | hy
        · exact Int.le_trans h0 hc.2
        · exact h2 y (List.mem_cons_of_mem _ hy)
theorem mostI_mem : ∀ (l : List Int) (m : Int), mostI m l ∈ m :: l ∧ ∀ y ∈ m :: l, y ≤ mostI m l
  | [], m => by simp [mostI]
  | x :: r, m => by
    unfold mostI
    obtain ⟨h1, h2⟩ := mostI_mem r (if x > m then x else m)
    refine ⟨?_, fun y hy => ?_⟩
    · rcases List.mem_cons.mp h1 with e | e
      · rw [e]
        split <;> simp
      · exact List.mem_cons_of_mem _ (List.mem_cons_of_mem _ e)
    · have h0 := h2 _ List.mem_cons_self
      have hc : m ≤ (if x > m then x else m) ∧ x ≤ (if x > m then x else m) := by constructor <;> split <;> omega
      rcases List.mem_cons.mp hy with rfl | hy
      · exact Int.le_trans hc.1 h0
      · rcases List.mem_cons.mp hy with rfl | hy
        · exact Int.le_trans hc.2 h0
        · exact h2 y (List.mem_cons_of_mem _ hy)
/-- types -/
theorem tyS_ty {x : D} {v : V} {t : String} (m : MH K φ H M) (r : Rep K φ H x v) (h : tyS M x = some t) : TyX K H v (.type t) := by
  unfold tyS at h
  split at h
  · rename_i e
    cases scal_at m r e (fun _ _ _ => ⟨by simp, by simp⟩)
    cases r
    cases h
    exact .base .non
  · rename_i e
    cases scal_at m r e (fun _ _ _ => ⟨by simp, by simp⟩)
    cases r
    cases h
    exact .base (.bl _)
  · rename_i e
    cases scal_at m r e (fun _ _ _ => ⟨by simp, by simp⟩)
    cases r
    cases h
    exact .base (.int _)
  · rename_i e
    cases scal_at m r e (fun _ _ _ => ⟨by simp, by simp⟩)
    cases r
    cases h
    exact .base (.str _)
  · rename_i e
    cases tup_at m r e
    cases h
    cases r with
    | tup h1 h2 h3 => exact .base (.tup h1)
    | tupK h1 h2 h3 h4 h5 h6 => exact .kTuple h1 h2
  · rename_i e
    obtain ⟨a, xs, rfl, h1, h2⟩ := lst_at m r e
    cases h
    exact .base (.lst h1)
  · cases h
  · rename_i e
    obtain ⟨a, rfl, h1, rfl⟩ := dct_at m r e
    cases h
    exact .base (.dK h1)
  · cases h
theorem tyS_in {x : D} {t : String} (h : tyS M x = some t) : t ∈ ["NoneType", "bool", "int", "str", "tuple", "list", "dict"] := by
  unfold tyS at h
  split at h <;> first | (cases h; decide) | cases h
theorem isiS_kit {t n : String} {b : Bool} (h1 : t ∈ ["NoneType", "bool", "int", "str", "tuple", "list", "dict"]) (h : isiS t n = some b) : PySem.W.kitOne K (.type t) (.type n) = some b := by
  unfold isiS at h
  split at h
  · rename_i e
    subst e
    cases h
    simp only [List.mem_cons, List.not_mem_nil, or_false] at h1
    rcases h1 with rfl | rfl | rfl | rfl | rfl | rfl | rfl <;> exact kit_ty (by decide +kernel)
  · split at h
    · rename_i e
      obtain ⟨rfl, rfl⟩ := e
      cases h
      exact kit_ty (by decide +kernel)
    · split at h
      · rename_i h2 h3 h4
        cases h
        simp only [List.mem_cons, List.not_mem_nil, or_false] at h1
        rcases h4 with rfl | rfl | rfl | rfl | rfl | rfl <;> (rcases h1 with rfl | rfl | rfl | rfl | rfl | rfl | rfl <;> first
          | exact kit_ty (by decide +kernel)
          | exact absurd rfl h2
          | exact absurd ⟨rfl, rfl⟩ h3)
      · cases h
end

/-- a built-in's value -/
def fvOf : Blt → Value
  | .len => .builtin "len" | .abs => .builtin "abs" | .int => .type "int" | .max => .builtin "max" | .min => .builtin "min" | .sum => .builtin "sum"
  | .all => .builtin "all" | .any => .builtin "any" | .isinst => .builtin "isinstance" | .repr => .builtin "repr" | .tuple => .type "tuple"
section
variable {X : Cx}
theorem or_blt (hc : X.calm = true) (b : Blt) : CallR X (fvOf b) (rC X.K fun M vs => bltS M b vs) := by
  intro pins s σ H xs us Q I r h
  obtain ⟨φ, M, as, d, m, ra, e, q⟩ := h
  replace e : bltS M b as = some d := e
  unfold bltS at e
  split at e
  · rename_i x
    rw [Option.map_eq_some_iff] at e
    obtain ⟨k, e, rfl⟩ := e
    cases ra with
    | cons r1 r2 =>
      cases r2
      have fin := end_same m (.int k) q
      unfold lenS at e
      split at e
      · rename_i l hl
        cases tup_at m r1 hl
        obtain ⟨p, ys, rfl, sq, rr⟩ := r1.sqT
        cases e
        rw [rr.length] at fin
        exact call_len pins s σ H _ us Q I r ⟨_, _, rfl, .inr ⟨ys, sq, rfl⟩, fin⟩
      · rename_i l hl
        obtain ⟨p, ys, rfl, sq, rr⟩ := lst_at m r1 hl
        cases e
        rw [rr.length] at fin
        exact call_len pins s σ H _ us Q I r ⟨_, _, rfl, .inl ⟨ys, SqL.of sq, rfl⟩, fin⟩
      · rename_i l hl
        cases scr_at m r1 hl
        cases r1 with
        | scr h1 rr =>
          cases e
          rw [rr.length] at fin
          exact call_len pins s σ H _ us Q I r ⟨_, _, rfl, .inl ⟨_, h1.sq, rfl⟩, fin⟩
      · rename_i x hl
        split at e
        · rename_i hz
          cases scal_at m r1 hl (fun _ _ _ => ⟨by simp, by simp⟩)
          cases r1
          cases e
          exact call_len pins s σ H _ us Q I r ⟨_, _, rfl, ⟨hz, rfl⟩, fin⟩
        · cases e
      · cases e
  · cases ra with
    | cons r1 r2 =>
      cases r2
      cases r1
      cases e
      exact call_abs pins s σ H _ us Q I r ⟨_, rfl, end_same m (.int _) q⟩
  · cases ra with
    | cons r1 r2 =>
      cases r2
      cases r1
      cases e
      exact call_int1 pins s σ H _ us Q I r (.inl ⟨_, rfl, end_same m (.int _) q⟩)
  · cases ra with
    | cons r1 r2 =>
      cases r2
      cases r1
      cases e
      exact call_int1 pins s σ H _ us Q I r (.inr ⟨_, rfl, end_same m (.int _) q⟩)
  · cases ra with
    | cons r1 r2 =>
      cases r2 with
      | cons r3 r4 =>
        cases r4
        cases r1
        cases r3
        cases e
        exact call_max2 hc pins s σ H _ us Q I r ⟨_, _, rfl, end_same m (.int _) q⟩
  · cases ra with
    | cons r1 r2 =>
      cases r2 with
      | cons r3 r4 =>
        cases r4
        cases r1
        cases r3
        cases e
        exact call_min2 hc pins s σ H _ us Q I r ⟨_, _, rfl, end_same m (.int _) q⟩
  · rename_i x
    rw [Option.bind_eq_some_iff] at e
    obtain ⟨ns, h1, e⟩ := e
    cases ra with
    | cons r1 r2 =>
      cases r2
      obtain ⟨a, rfl, h2⟩ := lstI_at m r1 h1
      split at e
      · cases e
      · rename_i i rest
        cases e
        refine cr_max hc pins s σ H _ us Q I r ⟨a, _, rfl, SqL.of h2, by simp, fun k hk hle => ?_⟩
        have : k = mostI i rest := by
          obtain ⟨k1, k2⟩ := mostI_mem rest i
          have a1 := hle _ k1
          have a2 := k2 _ hk
          omega
        rw [this]
        exact end_same m (.int _) q
  · rename_i x
    rw [Option.bind_eq_some_iff] at e
    obtain ⟨ns, h1, e⟩ := e
    cases ra with
    | cons r1 r2 =>
      cases r2
      obtain ⟨a, rfl, h2⟩ := lstI_at m r1 h1
      split at e
      · cases e
      · rename_i i rest
        cases e
        refine cr_min hc pins s σ H _ us Q I r ⟨a, _, rfl, SqL.of h2, by simp, fun k hk hle => ?_⟩
        have : k = leastI i rest := by
          obtain ⟨k1, k2⟩ := leastI_mem rest i
          have a1 := hle _ k1
          have a2 := k2 _ hk
          omega
        rw [this]
        exact end_same m (.int _) q
  · rename_i x
    rw [Option.map_eq_some_iff] at e
    obtain ⟨ns, h1, rfl⟩ := e
    cases ra with
    | cons r1 r2 =>
      cases r2
      obtain ⟨a, rfl, h2⟩ := lstI_at m r1 h1
      exact cr_sum hc pins s σ H _ us Q I r ⟨a, _, rfl, SqL.of h2, end_same m (.int _) q⟩
  · rename_i x
    rw [Option.map_eq_some_iff] at e
    obtain ⟨ns, h1, rfl⟩ := e
    cases ra with
    | cons r1 r2 =>
      cases r2
      obtain ⟨a, rfl, h2⟩ := lstB_at m r1 h1
      exact cr_all hc pins s σ H _ us Q I r ⟨a, _, rfl, SqL.of h2, end_same m (.bl _) q⟩
  · rename_i x
    rw [Option.map_eq_some_iff] at e
    obtain ⟨ns, h1, rfl⟩ := e
    cases ra with
    | cons r1 r2 =>
      cases r2
      obtain ⟨a, rfl, h2⟩ := lstB_at m r1 h1
      exact cr_any hc pins s σ H _ us Q I r ⟨a, _, rfl, SqL.of h2, end_same m (.bl _) q⟩
  · rename_i x n
    rw [Option.bind_eq_some_iff] at e
    obtain ⟨t, h1, e⟩ := e
    rw [Option.map_eq_some_iff] at e
    obtain ⟨k, h2, rfl⟩ := e
    cases ra with
    | cons r1 r2 =>
      cases r2 with
      | cons r3 r4 =>
        cases r4
        cases r3
        exact call_isi pins s σ H _ us Q I r ⟨_, _, _, _, k, rfl, .ty n, tyS_ty m r1 h1, isiS_kit (tyS_in h1) h2, end_same m (.bl _) q⟩
  · cases ra with
    | cons r1 r2 =>
      cases r2
      cases r1
      cases e
      obtain ⟨u, rfl, ru⟩ := vals1 r
      cases ru
      exact PySem.P.repr_of_bool ⟨.str _, H, I.tok _, ⟨_, rfl⟩, end_same m (.str _) q⟩
  · cases ra with
    | cons r1 r2 =>
      cases r2
      cases e
      obtain ⟨p, ys, rfl, sq, rr⟩ := r1.sqT
      exact call_tupleT pins s σ H _ us Q I r ⟨p, ys, rfl, sq, end_same m r1 q⟩
  · rename_i x _
    rw [Option.map_eq_some_iff] at e
    obtain ⟨l, h1, rfl⟩ := e
    cases ra with
    | cons r1 r2 =>
      cases r2
      obtain ⟨a, ys, rfl, h2, h3⟩ := lstOf_at m r1 h1
      exact call_tuple_of pins s σ H _ us Q I r ⟨a, ys, rfl, .inl ⟨SqL.of h2, fun p hp => end_tup m hp h3 q⟩⟩
  · cases e
/-! ### methods -/
def idOf : Mth → String
  | .append => "list.append" | .extend => "list.extend" | .count => "list.count" | .index => "list.index" | .insert => "list.insert"
theorem eqV_int (i j : Int) : eqV (.int i) (.int j) = (i == j) := rfl
theorem idxOf_spec : ∀ {k : Int} {l : List Int} {j : Nat}, idxOf k l = some j → l[j]? = some k ∧ ∀ m z, m < j → l[m]? = some z → z ≠ k
  | k, [], j, h => by cases h
  | k, x :: r, j, h => by
    unfold idxOf at h
    split at h
    · rename_i e
      cases h
      exact ⟨by rw [e]; rfl, fun m z hm => absurd hm (Nat.not_lt_zero _)⟩
    · rename_i e
      rw [Option.map_eq_some_iff] at h
      obtain ⟨j', h, rfl⟩ := h
      obtain ⟨h1, h2⟩ := idxOf_spec h
      refine ⟨by simpa using h1, fun m z hm hz => ?_⟩
      cases m with
      | zero =>
        simp at hz
        rw [← hz]
        exact e
      | succ m => exact h2 m z (by omega) (by simpa using hz)
theorem or_mth (mm : Mth) : MtR X (idOf mm) (rMt X.K fun M x vs => mthS M mm x vs) := by
  intro pins s σ H x xs v us Q I rx r h
  obtain ⟨φ, M, a, as, d, M', m, ra, rs, e, q⟩ := h
  replace e : mthS M mm a as = some (d, M') := e
  unfold mthS at e
  split at e
  · rename_i n w
    cases rs with
    | @cons _ w' _ _ r1 r2 =>
      cases r2
      cases ra with
      | @ref _ a h1 =>
        split at e
        · rename_i l hl
          split at e
          · rename_i hz
            cases e
            cases m.at_ n a _ h1 hl with
            | @lst _ ys _ h2 rr =>
              have ex : Ext φ H φ (upd H a (.lst (ys ++ [w']))) := Ext.set (M := M) h1
              refine mt_append pins s σ H _ _ v us Q I rx r ⟨a, ys, _, rfl, rfl, h2, by rw [← rr.length]; exact hz, ?_⟩
              exact q _ _ _ ex (m.set h1 (.lst upd_same (Reps.ext ex _ _ (rr.append (.cons r1 .nil))))) .non
          · cases e
        · cases e
  · rename_i n w
    cases rs with
    | cons r1 r2 =>
      cases r2
      cases ra with
      | @ref _ a h1 =>
        cases r1 with
        | @lst b zs _ k1 k2 k3 =>
          split at e
          · rename_i l hl
            split at e
            · rename_i hz
              cases e
              cases m.at_ n a _ h1 hl with
              | @lst _ ys _ h2 rr =>
                have ex : Ext φ H φ (upd H a (.lst (ys ++ zs))) := Ext.set (M := M) h1
                refine mt_extend pins s σ H _ _ v us Q I rx r ⟨a, b, ys, zs, rfl, rfl, h2, k1, by rw [← rr.length, ← k3.length]; exact hz, ?_⟩
                exact q _ _ _ ex (m.set h1 (.lst upd_same (Reps.ext ex _ _ (rr.append k3)))) .non
            · cases e
          · cases e
  · rename_i y k
    rw [Option.map_eq_some_iff] at e
    obtain ⟨ns, h1, e⟩ := e
    cases e
    cases rs with
    | cons r1 r2 =>
      cases r2
      cases r1
      obtain ⟨p, rfl, h2⟩ := lstI_at m ra h1
      exact mt_lcount pins s σ H _ _ v us Q I rx r ⟨p, ns, k, rfl, rfl, SqL.of h2, end_same m (.int _) q⟩
  · rename_i y k
    rw [Option.bind_eq_some_iff] at e
    obtain ⟨ns, h1, e⟩ := e
    rw [Option.map_eq_some_iff] at e
    obtain ⟨j, h3, e⟩ := e
    cases e
    cases rs with
    | cons r1 r2 =>
      cases r2
      cases r1
      obtain ⟨p, rfl, h2⟩ := lstI_at m ra h1
      obtain ⟨g1, g2⟩ := idxOf_spec h3
      refine mt_index pins s σ H _ _ v us Q I rx r ⟨p, _, _, j, .int k, rfl, rfl, SqL.of h2, rfl, ?_, ?_, ?_, fun m' z' hm hz => ?_, end_same m (.int _) q⟩
      · rw [List.all_eq_true]
        intro z hz
        rw [List.mem_map] at hz
        obtain ⟨w, _, rfl⟩ := hz
        rfl
      · rw [List.getElem?_map, g1]
        rfl
      · rw [eqV_int]
        exact beq_self_eq_true k
      · rw [List.getElem?_map, Option.map_eq_some_iff] at hz
        obtain ⟨w, hw, rfl⟩ := hz
        rw [eqV_int]
        exact beq_eq_false_iff_ne.mpr (g2 m' w hm hw)
  · rename_i n i w
    cases rs with
    | cons r0 rs =>
      cases r0
      cases rs with
      | @cons _ w' _ _ r1 r2 =>
        cases r2
        cases ra with
        | @ref _ a h1 =>
          split at e
          · rename_i l hl
            split at e
            · rename_i hz
              obtain ⟨hz, h0, h63⟩ := hz
              cases e
              cases m.at_ n a _ h1 hl with
              | @lst _ ys _ h2 rr =>
                have ex : Ext φ H φ (upd H a (.lst (ys.take i.toNat ++ [w'] ++ ys.drop i.toNat))) := Ext.set (M := M) h1
                refine mt_insert pins s σ H _ _ v us Q I rx r ⟨a, ys, i, w', rfl, rfl, h2, by rw [← rr.length]; exact hz, h0, h63, ?_⟩
                exact q _ _ _ ex (m.set h1 (.lst upd_same (Reps.ext ex _ _ (((rr.take _).append (.cons r1 .nil)).append (rr.drop _))))) .non
            · cases e
          · cases e
  · cases e
end
end MP
/-! MiniPy 6: expressions. -/
namespace MP
open PySem PySem.Spec PyProof.Rows L2
variable [TabC]

theorem imp_PE {X : Cx} {e : Expr} {t t' : TE} (h : PE X e t) (i : ∀ σ H Q, t' σ H Q → t σ H Q) : PE X e t' := ⟨fun pins s σ H Q I q => h.run pins s σ H Q I (i σ H Q q)⟩
theorem imp_PT {X : Cx} {e : Expr} {t t' : TT} (h : PT X e t) (i : ∀ σ H Q, t' σ H Q → t σ H Q) : PT X e t' := ⟨fun pins s σ H Q I q => h.run pins s σ H Q I (i σ H Q q)⟩
theorem imp_PW {X : Cx} {e : Expr} {t t' : TT} (h : PW X e t) (i : ∀ σ H Q, t' σ H Q → t σ H Q) : PW X e t' := ⟨fun w pins s σ H Q I q => h.run w pins s σ H Q I (i σ H Q q)⟩
theorem imp_PA {X : Cx} {e : List Expr} {t t' : TA} (h : PA X e t) (i : ∀ σ H Q, t' σ H Q → t σ H Q) : PA X e t' := ⟨fun p pins s σ H Q I q => h.run p pins s σ H Q I (i σ H Q q)⟩
theorem imp_PO {X : Cx} {e : Option Expr} {t t' : TO} (h : PO X e t) (i : ∀ σ H Q, t' σ H Q → t σ H Q) : PO X e t' := ⟨fun pins s σ H Q I q => h.run pins s σ H Q I (i σ H Q q)⟩
theorem imp_PI {X : Cx} {tg e : Expr} {t t' : TI} (h : PI X tg e t) (i : ∀ σ H Q, t' σ H Q → t σ H Q) : PI X tg e t' := ⟨fun pins s σ H Q I q => h.run pins s σ H Q I (i σ H Q q)⟩
theorem imp_PS {X : Cx} {e : Stmt} {t t' : TS} (h : PS X e t) (i : ∀ D σ H, t' D σ H → t D σ H) : PS X e t' := ⟨fun pins s σ H D I q => h.run pins s σ H D I (i D σ H q)⟩
theorem imp_PSs {X : Cx} {e : List Stmt} {t t' : TS} (h : PSs X e t) (i : ∀ D σ H, t' D σ H → t D σ H) : PSs X e t' := ⟨fun pins s σ H D I q => h.run pins s σ H D I (i D σ H q)⟩

section
variable {K : PySem.W.Frag} {W : WX} {cl : Cl} {σ : L2.St} {H : Hp}
theorem tE_eq {m m' : Lo → List D → R D} {Q : VK} (e : ∀ L M, m L M = m' L M) (h : tE K W m σ H Q) : tE K W m' σ H Q := by
  rw [← show m = m' from funext fun L => funext fun M => e L M]
  exact h
/-- one value behind another -/
theorem use1 {ma : E} {f : List D → D → R D} {Q : VK} {t : V → Hp → VK → Prop} (h : tE K W (fun L M => (evE cl ma L M).bind fun x M1 => f M1 x) σ H Q)
    (ht : ∀ φ M a x H1, MH K φ H1 M → Rep K φ H1 a x → PR K W σ φ H1 (f M a) (fun d _ φ' H' => ∀ v, Rep K φ' H' d v → Q v H') → t x H1 Q) : tE K W (evE cl ma) σ H fun x H1 => t x H1 Q := by
  obtain ⟨L, φ, M, lr, mh, p⟩ := h
  exact tE_use lr mh p.bind fun d M' φ' H' v e m g r => ht φ' M' d v H' m r g
theorem use2 {ma mb : E} {f : List D → D → D → Option D} {Q : VK} (h : tE K W (fun L M => (evE cl ma L M).bind fun x M1 => (evE cl mb L M1).bind fun y M2 => ofO (f M2 x y) M2) σ H Q) :
    tOp (rO K f) (tE K W (evE cl ma)) (tE K W (evE cl mb)) σ H Q := by
  obtain ⟨L, φ, M, lr, mh, p⟩ := h
  refine tE_use lr mh p.bind fun x M1 φ1 H1 vx e1 m1 p1 r1 => ?_
  refine tE_use (lr.ext e1) m1 p1.bind fun y M2 φ2 H2 vy e2 m2 p2 r2 => ?_
  cases hd : f M2 x y with
  | none => rw [hd] at p2; exact False.elim p2
  | some d =>
    rw [hd] at p2
    exact ⟨φ2, M2, x, y, d, m2, Rep.ext e2 _ _ r1, r2, hd, fun φ' H' v e m r => p2 φ' H' e m v r⟩
end

section
variable {X : Cx} {W : WX} {cl : Cl} {a b c : Expr} {ma mb mc : E} {pos : Pos}
theorem me_var {i : Nat} {x : Str} (hN : X.N[i]? = some x) (hv : Vis X.env.scope x) (hd : (x == ("__debug__" : Str)) = false) (hcd : (x == ("__classdict__" : Str)) = false) : PE X (.Name x pos) (tE X.K W (evE cl (.var i))) := by
  refine imp_PE (pe_var hN hv hd hcd) fun σ H Q h => ?_
  obtain ⟨L, φ, M, lr, mh, p⟩ := h
  simp only [evE] at p
  split at p
  · rename_i d hd
    obtain ⟨v, h1, h2⟩ := lr.at_ i d hd
    exact ⟨v, h1, p.here mh v h2⟩
  · exact False.elim p
theorem me_lit {e : Expr} {d : D} {v : V} (h : PE X e (tC v)) (hr : ∀ φ H, Rep X.K φ H d v) : PE X e (tE X.K W (evE cl (.lit d))) := by
  refine imp_PE h fun σ H Q h => ?_
  obtain ⟨L, φ, M, lr, mh, p⟩ := h
  simp only [evE] at p
  exact p.here mh v (hr φ H)
theorem me_int {i : Int} {k : Nat} : PE X (.Constant (.int i) k pos) (tE X.K W (evE cl (.lit (.int i)))) := me_lit pe_int fun _ _ => .int i
theorem me_bl {i : Bool} {k : Nat} : PE X (.Constant (.bool i) k pos) (tE X.K W (evE cl (.lit (.bl i)))) := me_lit pe_bl fun _ _ => .bl i
theorem me_non {k : Nat} : PE X (.Constant .none k pos) (tE X.K W (evE cl (.lit .non))) := me_lit pe_non fun _ _ => .non
theorem me_str {x : Str} {k : Nat} : PE X (.Constant (.str x) k pos) (tE X.K W (evE cl (.lit (.str x)))) := me_lit pe_str fun _ _ => .str x
theorem me_ty {x : Str} {n : String} (hg : Gl X x) (hm : X.mg x = none) (hv : bootBuiltins x = some (.type n)) (hn : x ≠ "__name__") (hd : (x == ("__debug__" : Str)) = false) : PE X (.Name x pos) (tE X.K W (evE cl (.lit (.ty n)))) :=
  me_lit (pe_bltn (v := .ty n) hg hm hv rfl hn hd) fun _ _ => .ty n
theorem me_glob {x : Str} {d : D} {v : V} {u : Value} (hg : Gl X x) (hm : X.mg x = some u) (r : RelV v u) (hr : ∀ φ H, Rep X.K φ H d v) (hd : (x == ("__debug__" : Str)) = false) : PE X (.Name x pos) (tE X.K W (evE cl (.lit d))) :=
  me_lit (pe_glob hg hm r hd) hr
theorem me_bin {o : Bop} (ha : PE X a (tE X.K W (evE cl ma))) (hb : PE X b (tE X.K W (evE cl mb))) : PE X (.BinOp a (opOf o) b pos) (tE X.K W (evE cl (.bin o ma mb))) :=
  imp_PE (pe_op (or_bin o) ha hb) fun σ H Q h => use2 (tE_eq (fun L M => rfl) h)
theorem me_neg (ha : PE X a (tE X.K W (evE cl ma))) : PE X (.UnaryOp .USub a pos) (tE X.K W (evE cl (.neg ma))) := by
  refine imp_PE (pe_un un_neg ha) fun σ H Q h => ?_
  refine use1 (f := fun M1 x => match x with | .int i => .ok (.int (-i)) M1 | _ => .bad) (tE_eq (fun L M => rfl) h) fun φ M d x H1 m r p => ?_
  cases r with
  | int i => exact ⟨i, rfl, p.here m _ (.int _)⟩
  | _ => exact False.elim p
theorem me_cmp {o : Cop} (hu : X.A.units + 64 < cLine) (ha : PE X a (tE X.K W (evE cl ma))) (hb : PE X b (tE X.K W (evE cl mb))) (hm : behindInMarks (cpOf o) b = false) : PE X (.Compare a [cpOf o] [b] pos) (tE X.K W (evE cl (.cmp o ma mb))) :=
  imp_PE (pe_cmpR (or_cmp hu o) ha hb hm) fun σ H Q h => use2 (tE_eq (fun L M => rfl) h)
theorem me_isN (ha : PE X a (tE X.K W (evE cl ma))) {j : Nat} {pos' : Pos} : PE X (.Compare a [.Is] [.Constant .none j pos'] pos) (tE X.K W (evE cl (.isN false ma))) := by
  refine imp_PE (pe_cmp (pc_isN ha) (nobehind _ (by decide) (by decide))) fun σ H Q h => ?_
  refine use1 (f := fun M1 x => .ok (.bl (false != (match x with | .non => true | _ => false))) M1) (tE_eq (fun L M => rfl) h) (t := fun x H1 Q => Q (.bl (decide (x = .non))) H1) fun φ M d x H1 m r p => ?_
  have q := p.here m
  cases r <;> exact q _ (.bl _)
theorem me_isnN (ha : PE X a (tE X.K W (evE cl ma))) {j : Nat} {pos' : Pos} : PE X (.Compare a [.IsNot] [.Constant .none j pos'] pos) (tE X.K W (evE cl (.isN true ma))) := by
  refine imp_PE (pe_cmp (pc_notN ha) (nobehind _ (by decide) (by decide))) fun σ H Q h => ?_
  refine use1 (f := fun M1 x => .ok (.bl (true != (match x with | .non => true | _ => false))) M1) (tE_eq (fun L M => rfl) h) (t := fun x H1 Q => Q (.bl (!decide (x = .non))) H1) fun φ M d x H1 m r p => ?_
  have q := p.here m
  cases r <;> exact q _ (.bl _)
theorem chain_use {o o' : Cop} {σ : L2.St} {H : Hp} {Q : VK} (h : tE X.K W (evE cl (.chain o o' ma mb mc)) σ H Q) : tChain (rO X.K fun M x y => (cmpS M o x y).map .bl) (rO X.K fun M x y => (cmpS M o' x y).map .bl) (tE X.K W (evE cl ma)) (tE X.K W (evE cl mb)) (tE X.K W (evE cl mc)) σ H Q := by
  obtain ⟨L, φ, M, lr, mh, p⟩ := h
  refine tE_use lr mh (PR.bind (show PR X.K W σ φ H ((evE cl ma L M).bind fun x M1 => (evE cl mb L M1).bind fun y M2 => (ofO (cmpS M2 o x y) M2).bind fun k M2 =>
      if k then (evE cl mc L M2).bind fun z M3 => ofO ((cmpS M3 o' y z).map D.bl) M3 else .ok (D.bl false) M2) _ from p)) fun x M1 φ1 H1 vx e1 m1 p1 r1 => ?_
  refine tE_use (lr.ext e1) m1 p1.bind fun y M2 φ2 H2 vy e2 m2 p2 r2 => ?_
  cases hd : cmpS M2 o x y with
  | none => rw [hd] at p2; exact False.elim p2
  | some k =>
    rw [hd] at p2
    replace p2 := show PR X.K W σ φ2 H2 (if k then (evE cl mc L M2).bind fun z M3 => ofO ((cmpS M3 o' y z).map D.bl) M3 else .ok (D.bl false) M2) _ from p2
    refine ⟨φ2, M2, x, y, .bl k, m2, Rep.ext e2 _ _ r1, r2, by show Option.map D.bl (cmpS M2 o x y) = _; rw [hd]; rfl, fun φ3 H3 v e3 m3 r3 => ?_⟩
    cases r3
    refine ⟨k, rfl, ?_⟩
    cases k with
    | false =>
      rw [if_neg Bool.false_ne_true] at p2 ⊢
      exact (p2.ext e3).here m3 _ (.bl _)
    | true =>
      rw [if_pos rfl] at p2 ⊢
      refine tE_use ((lr.ext e1).ext (e2.trans e3)) m3 (p2.ext e3).bind fun z M4 φ4 H4 vz e4 m4 p4 r4 => ?_
      cases hd' : cmpS M4 o' y z with
      | none => rw [hd'] at p4; exact False.elim p4
      | some k' =>
        rw [hd'] at p4
        exact ⟨φ4, M4, y, z, .bl k', m4, Rep.ext (e3.trans e4) _ _ r2, r4, by show Option.map D.bl (cmpS M4 o' y z) = _; rw [hd']; rfl, fun φ' H' v e m r => p4 φ' H' e m v r⟩
theorem me_chain {o o' : Cop} (hu : X.A.units + 64 < cLine) (ha : PE X a (tE X.K W (evE cl ma))) (hb : PE X b (tE X.K W (evE cl mb))) (hc : PE X c (tE X.K W (evE cl mc)))
    (hm : lastMarks [cpOf o, cpOf o'] [b, c] = false) : PE X (.Compare a [cpOf o, cpOf o'] [b, c] pos) (tE X.K W (evE cl (.chain o o' ma mb mc))) :=
  imp_PE (pe_chain (or_cmp hu o) (or_cmp hu o') ha hb hc hm) fun σ H Q h => chain_use h

/-! ### tests -/
theorem mt_val (ha : PE X a (tE X.K W (evE cl ma))) (he : ∀ whole, isTrue a X.env whole = (do let v ← whole; standAt a.pos; holding [v] (truthy v))) : PT X a (tT X.K W (evE cl ma)) := by
  refine imp_PT (pt_truth ha he) fun σ H Q h => ?_
  obtain ⟨L, φ, M, lr, mh, p⟩ := h
  refine tE_use lr mh p fun d M' φ' H' v e m g r => ?_
  obtain ⟨k, h1, h2⟩ := g
  exact ⟨k, tru_rep m r h1, h2⟩
/-- a bool's reading as a test -/
theorem bool_test {m : Lo → List D → R D} {σ : L2.St} {H : Hp} {Q : Bool → Hp → Prop} {t : TE} (ht : ∀ σ H Q, tE X.K W m σ H Q → t σ H Q) (hb : ∀ L M d M', m L M = .ok d M' → ∃ b, d = .bl b) (h : tT X.K W m σ H Q) : t σ H fun x H1 => ∃ k, x = .bl k ∧ Q k H1 := by
  obtain ⟨L, φ, M, lr, mh, p⟩ := h
  refine ht σ H _ ⟨L, φ, M, lr, mh, ?_⟩
  cases hm : m L M with
  | bad => rw [hm] at p; exact p
  | exc c e M' => rw [hm] at p; exact p
  | ok d M' =>
    rw [hm] at p
    obtain ⟨b, rfl⟩ := hb L M d M' hm
    intro φ' H' e m' v r
    obtain ⟨k, h1, h2⟩ := p φ' H' e m'
    cases r
    simp [truth, cont] at h1
    subst h1
    exact ⟨_, rfl, h2⟩
theorem bind_inv {α β : Type} {r : R α} {f : α → List D → R β} {d : β} {M' : List D} (h : r.bind f = .ok d M') : ∃ a M1, r = .ok a M1 ∧ f a M1 = .ok d M' := by
  cases r with
  | ok a M1 => exact ⟨a, M1, rfl, h⟩
  | exc c e M1 => cases h
  | bad => cases h
theorem ofO_inv {α : Type} {o : Option α} {M M' : List D} {d : α} (h : ofO o M = .ok d M') : o = some d ∧ M' = M := by
  cases o with
  | none => cases h
  | some a => cases h; exact ⟨rfl, rfl⟩
theorem mt_cmp {o : Cop} (hu : X.A.units + 64 < cLine) (ha : PE X a (tE X.K W (evE cl ma))) (hb : PE X b (tE X.K W (evE cl mb))) (hm : behindInMarks (cpOf o) b = false) : PT X (.Compare a [cpOf o] [b] pos) (tT X.K W (evE cl (.cmp o ma mb))) := by
  refine imp_PT (pt_cmpR (or_cmp hu o) ha hb hm) fun σ H Q h => ?_
  refine bool_test (m := evE cl (.cmp o ma mb)) (fun σ H Q h => use2 (tE_eq (fun L M => rfl) h)) (fun L M d M' h => ?_) h
  obtain ⟨x, M1, _, h⟩ := bind_inv (show (evE cl ma L M).bind _ = _ from h)
  obtain ⟨y, M2, _, h⟩ := bind_inv h
  obtain ⟨h, _⟩ := ofO_inv h
  rw [Option.map_eq_some_iff] at h
  obtain ⟨k, _, rfl⟩ := h
  exact ⟨k, rfl⟩
theorem mt_isN (ha : PE X a (tE X.K W (evE cl ma))) {j : Nat} {pos' : Pos} : PT X (.Compare a [.Is] [.Constant .none j pos'] pos) (tT X.K W (evE cl (.isN false ma))) := by
  refine imp_PT (pt_cmp (pc_isN ha) (nobehind _ (by decide) (by decide))) fun σ H Q h => ?_
  refine bool_test (m := evE cl (.isN false ma)) (fun σ H Q h => ?_) (fun L M d M' h => ?_) h
  · refine use1 (f := fun M1 x => .ok (.bl (false != (match x with | .non => true | _ => false))) M1) (tE_eq (fun L M => rfl) h) (t := fun x H1 Q => Q (.bl (decide (x = .non))) H1) fun φ M d x H1 m r p => ?_
    have q := p.here m
    cases r <;> exact q _ (.bl _)
  · obtain ⟨x, M1, _, h⟩ := bind_inv (show (evE cl ma L M).bind _ = _ from h)
    cases h
    exact ⟨_, rfl⟩
theorem mt_isnN (ha : PE X a (tE X.K W (evE cl ma))) {j : Nat} {pos' : Pos} : PT X (.Compare a [.IsNot] [.Constant .none j pos'] pos) (tT X.K W (evE cl (.isN true ma))) := by
  refine imp_PT (pt_cmp (pc_notN ha) (nobehind _ (by decide) (by decide))) fun σ H Q h => ?_
  refine bool_test (m := evE cl (.isN true ma)) (fun σ H Q h => ?_) (fun L M d M' h => ?_) h
  · refine use1 (f := fun M1 x => .ok (.bl (true != (match x with | .non => true | _ => false))) M1) (tE_eq (fun L M => rfl) h) (t := fun x H1 Q => Q (.bl (!decide (x = .non))) H1) fun φ M d x H1 m r p => ?_
    have q := p.here m
    cases r <;> exact q _ (.bl _)
  · obtain ⟨x, M1, _, h⟩ := bind_inv (show (evE cl ma L M).bind _ = _ from h)
    cases h
    exact ⟨_, rfl⟩
theorem mt_tru (ha : PE X a (tE X.K W (evE cl ma))) (he : ∀ whole, isTrue a X.env whole = (do let v ← whole; standAt a.pos; holding [v] (truthy v))) : PT X a (tT X.K W (evE cl (.tru ma))) := by
  refine imp_PT (mt_val ha he) fun σ H Q h => ?_
  obtain ⟨L, φ, M, lr, mh, p⟩ := h
  refine tT_use lr mh (PR.bind (show PR X.K W σ φ H ((evE cl ma L M).bind fun x M1 => (ofO (truth M1 x) M1).bind fun k M1 => .ok (D.bl k) M1) _ from p)) fun d M' φ' H' e m g => ?_
  cases hk : truth M' d with
  | none => rw [hk] at g; exact False.elim g
  | some k =>
    rw [hk] at g
    obtain ⟨k', h1, h2⟩ := (show PR X.K W σ φ' H' (.ok (D.bl k) M') _ from g).here m
    cases h1
    exact ⟨k, rfl, h2⟩
theorem mt_chain {o o' : Cop} (hu : X.A.units + 64 < cLine) (ha : PE X a (tE X.K W (evE cl ma))) (hb : PE X b (tE X.K W (evE cl mb))) (hc : PE X c (tE X.K W (evE cl mc)))
    (hm : lastMarks [cpOf o, cpOf o'] [b, c] = false) : PT X (.Compare a [cpOf o, cpOf o'] [b, c] pos) (tT X.K W (evE cl (.chain o o' ma mb mc))) := by
  refine imp_PT (pt_chain (or_cmp hu o) (or_cmp hu o') ha hb hc hm) fun σ H Q h => ?_
  refine bool_test (m := evE cl (.chain o o' ma mb mc)) (fun σ H Q h => chain_use h) (fun L M d M' h => ?_) h
  obtain ⟨x, M1, _, h⟩ := bind_inv (show (evE cl ma L M).bind _ = _ from h)
  obtain ⟨y, M2, _, h⟩ := bind_inv h
  obtain ⟨k, M3, h0, h⟩ := bind_inv h
  cases k with
  | true =>
    rw [if_pos rfl] at h
    obtain ⟨z, M4, _, h⟩ := bind_inv h
    obtain ⟨h, _⟩ := ofO_inv h
    rw [Option.map_eq_some_iff] at h
    obtain ⟨k, _, rfl⟩ := h
    exact ⟨k, rfl⟩
  | false =>
    rw [if_neg Bool.false_ne_true] at h
    cases h
    exact ⟨_, rfl⟩
theorem mt_not (ha : PT X a (tT X.K W (evE cl ma))) : PT X (.UnaryOp .Not a pos) (tT X.K W (evE cl (.notE ma))) := by
  refine imp_PT (pt_not ha) fun σ H Q h => ?_
  obtain ⟨L, φ, M, lr, mh, p⟩ := h
  refine tT_use lr mh (PR.bind (show PR X.K W σ φ H ((evE cl ma L M).bind fun x M1 => match x with | .bl b => .ok (D.bl (!b)) M1 | _ => .bad) _ from p)) fun d M' φ' H' e m g => ?_
  cases d <;> first | exact False.elim g | skip
  obtain ⟨k, h1, h2⟩ := g.here m
  simp [truth, cont] at h1
  subst h1
  refine ⟨_, rfl, ?_⟩
  rw [Bool.not_not]
  exact h2
theorem mw_and1 (ha : PT X a (tT X.K W (evE cl ma))) : PW X (.BoolOp .And [a] pos) (tT X.K W (evE cl ma)) := pw_and1 ha
theorem mw_or1 (ha : PT X a (tT X.K W (evE cl ma))) : PW X (.BoolOp .Or [a] pos) (tT X.K W (evE cl ma)) := pw_or1 ha
theorem mw_and {rest : List Expr} (ha : PT X a (tT X.K W (evE cl ma))) (hb : PW X (.BoolOp .And (b :: rest) pos) (tT X.K W (evE cl mb))) : PW X (.BoolOp .And (a :: b :: rest) pos) (tT X.K W (evE cl (.andE ma mb))) := by
  refine imp_PW (pw_and ha hb) fun σ H Q h => ?_
  obtain ⟨L, φ, M, lr, mh, p⟩ := h
  refine tT_use lr mh (PR.bind (show PR X.K W σ φ H ((evE cl ma L M).bind fun x M1 => match x with | .bl true => evE cl mb L M1 | .bl false => .ok (D.bl false) M1 | _ => .bad) _ from p)) fun d M' φ' H' e m g => ?_
  cases d <;> first | exact False.elim g | skip
  rename_i k
  refine ⟨k, rfl, ?_⟩
  cases k with
  | true => exact ⟨L, φ', M', lr.ext e, m, g⟩
  | false =>
    obtain ⟨k, h1, h2⟩ := g.here m
    simp [truth, cont] at h1
    subst h1
    exact h2
theorem mw_or {rest : List Expr} (ha : PT X a (tT X.K W (evE cl ma))) (hb : PW X (.BoolOp .Or (b :: rest) pos) (tT X.K W (evE cl mb))) : PW X (.BoolOp .Or (a :: b :: rest) pos) (tT X.K W (evE cl (.orE ma mb))) := by
  refine imp_PW (pw_or ha hb) fun σ H Q h => ?_
  obtain ⟨L, φ, M, lr, mh, p⟩ := h
  refine tT_use lr mh (PR.bind (show PR X.K W σ φ H ((evE cl ma L M).bind fun x M1 => match x with | .bl false => evE cl mb L M1 | .bl true => .ok (D.bl true) M1 | _ => .bad) _ from p)) fun d M' φ' H' e m g => ?_
  cases d <;> first | exact False.elim g | skip
  rename_i k
  refine ⟨k, rfl, ?_⟩
  cases k with
  | false => exact ⟨L, φ', M', lr.ext e, m, g⟩
  | true =>
    obtain ⟨k, h1, h2⟩ := g.here m
    simp [truth, cont] at h1
    subst h1
    exact h2
/-! ### the same as values -/
theorem me_not (ha : PE X a (tE X.K W (evE cl ma))) : PE X (.UnaryOp .Not a pos) (tE X.K W (evE cl (.notE ma))) := by
  refine imp_PE (pe_not ha) fun σ H Q h => ?_
  refine use1 (f := fun M1 x => match x with | .bl b => .ok (.bl (!b)) M1 | _ => .bad) (tE_eq (fun L M => rfl) h) (t := fun x H1 Q => ∃ c, x = .bl c ∧ Q (.bl (!c)) H1) fun φ M d x H1 m r p => ?_
  cases r with
  | bl b => exact ⟨b, rfl, p.here m _ (.bl _)⟩
  | _ => exact False.elim p
theorem me_one {op : PySem.BoolOp} (ha : PE X a (tE X.K W (evE cl ma))) : PE X (.BoolOp op [a] pos) (tE X.K W (evE cl ma)) := pe_one ha
theorem me_and {rest : List Expr} (ha : PE X a (tE X.K W (evE cl ma))) (hb : PE X (.BoolOp .And (b :: rest) pos) (tE X.K W (evE cl mb))) : PE X (.BoolOp .And (a :: b :: rest) pos) (tE X.K W (evE cl (.andE ma mb))) := by
  refine imp_PE (pe_and ha hb) fun σ H Q h => ?_
  obtain ⟨L, φ, M, lr, mh, p⟩ := h
  refine tE_use lr mh (PR.bind (show PR X.K W σ φ H ((evE cl ma L M).bind fun x M1 => match x with | .bl true => evE cl mb L M1 | .bl false => .ok (D.bl false) M1 | _ => .bad) _ from p)) fun d M' φ' H' v e m g r => ?_
  cases d <;> first | exact False.elim g | skip
  cases r
  rename_i k
  refine ⟨k, rfl, ?_⟩
  cases k with
  | true => exact ⟨L, φ', M', lr.ext e, m, g⟩
  | false => exact g.here m _ (.bl _)
theorem me_or {rest : List Expr} (ha : PE X a (tE X.K W (evE cl ma))) (hb : PE X (.BoolOp .Or (b :: rest) pos) (tE X.K W (evE cl mb))) : PE X (.BoolOp .Or (a :: b :: rest) pos) (tE X.K W (evE cl (.orE ma mb))) := by
  refine imp_PE (pe_or ha hb) fun σ H Q h => ?_
  obtain ⟨L, φ, M, lr, mh, p⟩ := h
  refine tE_use lr mh (PR.bind (show PR X.K W σ φ H ((evE cl ma L M).bind fun x M1 => match x with | .bl false => evE cl mb L M1 | .bl true => .ok (D.bl true) M1 | _ => .bad) _ from p)) fun d M' φ' H' v e m g r => ?_
  cases d <;> first | exact False.elim g | skip
  cases r
  rename_i k
  refine ⟨k, rfl, ?_⟩
  cases k with
  | false => exact ⟨L, φ', M', lr.ext e, m, g⟩
  | true => exact g.here m _ (.bl _)
theorem me_ite (hc : PT X c (tT X.K W (evE cl mc))) (ha : PE X a (tE X.K W (evE cl ma))) (hb : PE X b (tE X.K W (evE cl mb))) : PE X (.IfExp c a b pos) (tE X.K W (evE cl (.ite mc ma mb))) := by
  refine imp_PE (pe_ifExp hc ha hb) fun σ H Q h => ?_
  obtain ⟨L, φ, M, lr, mh, p⟩ := h
  refine tT_use lr mh (PR.bind (show PR X.K W σ φ H ((evE cl mc L M).bind fun x M1 => (ofO (truth M1 x) M1).bind fun k M1 => if k then evE cl ma L M1 else evE cl mb L M1) _ from p)) fun d M' φ' H' e m g => ?_
  cases hk : truth M' d with
  | none => rw [hk] at g; exact False.elim g
  | some k =>
    rw [hk] at g
    refine ⟨k, rfl, ?_⟩
    replace g := show PR X.K W σ φ' H' (if k then evE cl ma L M' else evE cl mb L M') _ from g
    cases k with
    | true => exact ⟨L, φ', M', lr.ext e, m, g⟩
    | false => exact ⟨L, φ', M', lr.ext e, m, g⟩
end
end MP
/-! MiniPy 7: argument lists, displays, new objects, calls of built-ins and methods. -/
namespace MP
open PySem PySem.Spec PyProof.Rows L2
variable [TabC]

section
variable {X : Cx} {W : WX} {cl : Cl} {a b c : Expr} {ma mb mc : E} {pos : Pos} {es : List Expr} {ms : Es}
theorem ma_nil : PA X [] (tEs X.K W (evEs cl .nil)) := by
  refine imp_PA pa_nil fun σ H Q h => ?_
  obtain ⟨L, φ, M, lr, mh, p⟩ := h
  exact (show PR X.K W σ φ H (.ok [] M) _ from p).here mh _ .nil
theorem ma_cons (ha : PE X a (tE X.K W (evE cl ma))) (hr : PA X es (tEs X.K W (evEs cl ms))) (hs : starEach (a :: es) X.env = (false, eval a X.env) :: starEach es X.env) : PA X (a :: es) (tEs X.K W (evEs cl (.cons ma ms))) := by
  refine imp_PA (pa_cons ha hr hs) fun σ H Q h => ?_
  obtain ⟨L, φ, M, lr, mh, p⟩ := h
  refine tE_use lr mh (PR.bind (show PR X.K W σ φ H ((evE cl ma L M).bind fun v M1 => (evEs cl ms L M1).bind fun vs M2 => .ok (v :: vs) M2) _ from p)) fun d M1 φ1 H1 v e1 m1 g1 r1 => ?_
  refine tEs_use (lr.ext e1) m1 g1.bind fun ds M2 φ2 H2 vs e2 m2 g2 r2 => ?_
  exact g2.here m2 _ (.cons (Rep.ext e2 _ _ r1) r2)
theorem me_tup {k : Nat} (ha : PA X es (tEs X.K W (evEs cl ms))) : PE X (.Tuple es k pos) (tE X.K W (evE cl (.tup ms))) := by
  refine imp_PE (pe_tup ha) fun σ H Q h => ?_
  obtain ⟨L, φ, M, lr, mh, p⟩ := h
  refine tEs_use lr mh (PR.bind (show PR X.K W σ φ H ((evEs cl ms L M).bind fun vs M1 => if vs.length ≤ lim then .ok (D.tup vs) M1 else .bad) _ from p)) fun ds M1 φ1 H1 vs e1 m1 g1 r1 => ?_
  split at g1
  · rename_i hz
    rw [r1.length] at hz
    exact ⟨hz, fun p hp => end_tup m1 hp r1 fun φ' H' v e m r => g1 φ' H' e m v r⟩
  · exact False.elim g1

/-! ### new objects: the raw reading -/
/-- what makes a new object of this content -/
inductive ObjIs (K : PySem.W.Frag) (φ : Ph) (H : Hp) : D → HO → Prop
  | lst {l : List D} {xs : List V} : Reps K φ H l xs → ObjIs K φ H (.lst l) (.lst xs)
  | dct0 : ObjIs K φ H (.dct []) (.dK [])
def tN (K : PySem.W.Frag) (W : WX) (m : Lo → List D → R D) : TE := fun σ H Q => ∃ L φ M, LR K φ H L σ ∧ MH K φ H M ∧ PR K W σ φ H (m L M) fun d M' φ' H' => ∀ o p, ObjIs K φ' H' d o → H' p = none → Q (.ref p) (upd H' p o)
theorem tN_eq {K : PySem.W.Frag} {σ : L2.St} {H : Hp} {m m' : Lo → List D → R D} {Q : VK} (e : ∀ L M, m L M = m' L M) (h : tN K W m σ H Q) : tN K W m' σ H Q := by
  rw [← show m = m' from funext fun L => funext fun M => e L M]
  exact h
theorem me_new {e : Expr} {n : N} (h : PE X e (tN X.K W (evN cl n))) {fr : Bool} : PE X e (tE X.K W (evE cl (.new fr n))) := by
  refine imp_PE h fun σ H Q h => ?_
  obtain ⟨L, φ, M, lr, mh, p⟩ := h
  refine ⟨L, φ, M, lr, mh, ?_⟩
  refine (PR.bind (show PR X.K W σ φ H ((evN cl n L M).bind fun d M1 => if fr then .ok d M1 else .ok (D.ref M1.length) (M1 ++ [d])) _ from p)).mono fun d M1 φ1 H1 e1 m1 g o q ob hp => ?_
  cases fr with
  | true =>
    rw [if_pos rfl] at g
    refine g φ1 _ (Ext.new hp) (m1.new hp) _ ?_
    cases ob with
    | lst r => exact .lst upd_same (m1.notin hp) (Reps.ext (Ext.new hp) _ _ r)
    | dct0 => exact .dct0 upd_same (m1.notin hp)
  | false =>
    rw [if_neg Bool.false_ne_true] at g
    have ob' : ObjAt X.K (φ1.more q) (upd H1 q o) d q := by
      cases ob with
      | lst r => exact .lst upd_same (Reps.ext (Ext.alloc hp) _ _ r)
      | dct0 => exact .dct0 upd_same
    refine g (φ1.more q) _ (Ext.alloc hp) (m1.alloc hp ob') _ (.ref ?_)
    · rw [← m1.len, List.getElem?_append_right (Nat.le_refl _), Nat.sub_self]
      rfl
theorem mn_disp (ha : PA X es (tEs X.K W (evEs cl ms))) : PE X (.List es pos) (tN X.K W (evN cl (.disp ms))) := by
  refine imp_PE (pe_lst ha) fun σ H Q h => ?_
  obtain ⟨L, φ, M, lr, mh, p⟩ := h
  refine tEs_use lr mh (PR.bind (show PR X.K W σ φ H ((evEs cl ms L M).bind fun vs M1 => if vs.length ≤ lim then .ok (D.lst vs) M1 else .bad) _ from p)) fun ds M1 φ1 H1 vs e1 m1 g1 r1 => ?_
  split at g1
  · rename_i hz
    rw [r1.length] at hz
    exact ⟨hz, fun p hp => g1.here m1 _ p (.lst r1) hp⟩
  · exact False.elim g1
theorem mn_dict0 : PE X (.Dict [] [] pos) (tN X.K W (evN cl .dict0)) := by
  refine imp_PE pe_dnewK fun σ H Q h => ?_
  obtain ⟨L, φ, M, lr, mh, p⟩ := h
  exact fun q hq => (show PR X.K W σ φ H (.ok (D.dct []) M) _ from p).here mh _ q .dct0 hq

/-- the facts of a built-in's name in this context -/
structure BN (X : Cx) (x : Str) : Prop where
  gl : Gl X x
  none : X.mg x = none
theorem mn_listOf {p : Pos} (bn : BN X "list") (ha : PE X a (tE X.K W (evE cl ma))) (he : starEach [a] X.env = (false, eval a X.env) :: starEach [] X.env) : PE X (.Call (.Name "list" p) [a] [] pos) (tN X.K W (evN cl (.listOf ma))) := by
  refine imp_PE (pe_callTy call_list_of bn.gl bn.none (by decide +kernel) (pa_cons ha pa_nil he) (by decide) (by decide) he rfl) fun σ H Q h => ?_
  obtain ⟨L, φ, M, lr, mh, p⟩ := h
  refine tE_use lr mh (PR.bind (show PR X.K W σ φ H ((evE cl ma L M).bind fun x M1 => match cont M1 x with | some (.lst l) => .ok (D.lst l) M1 | some (.tup l) => .ok (.lst l) M1 | some (.scr l) => .ok (.lst l) M1 | _ => .bad) _ from p)) fun d M1 φ1 H1 v e1 m1 g1 r1 => ?_
  show ∃ p ys, [v] = [V.ref p] ∧ (SqL X.K H1 p ys ∨ SqT X.K H1 p ys) ∧ ∀ l, H1 l = none → Q (.ref l) (upd H1 l (.lst ys))
  split at g1
  · rename_i l hl
    obtain ⟨q, ys, rfl, sq, r⟩ := lst_at m1 r1 hl
    exact ⟨q, ys, rfl, .inl (SqL.of sq), fun l hl => g1.here m1 _ l (.lst r) hl⟩
  · rename_i l hl
    cases tup_at m1 r1 hl
    obtain ⟨q, ys, rfl, sq, r⟩ := r1.sqT
    exact ⟨q, ys, rfl, .inr sq, fun l hl => g1.here m1 _ l (.lst r) hl⟩
  · rename_i l hl
    cases scr_at m1 r1 hl
    cases r1 with
    | scr h1 r => exact ⟨_, _, rfl, .inl h1.sq, fun l hl => g1.here m1 _ l (.lst r) hl⟩
  · exact False.elim g1
theorem reps_rg {K : PySem.W.Frag} {φ : Ph} {H : Hp} (i j : Int) : Reps K φ H (rgL i j) (rgV i j) := by
  unfold rgL rgV
  generalize List.range (j - i).toNat = l
  induction l with
  | nil => exact .nil
  | cons k r ih => exact .cons (.int _) ih
theorem rgOk_is {i j : Int} (h : (rgOk i j && decide ((j - i).toNat ≤ 2 ^ 24)) = true) : RgOk i j := by
  unfold rgOk at h
  simp only [Bool.and_eq_true, decide_eq_true_eq] at h
  exact ⟨h.1.1, h.1.2.1, h.1.2.2.1, h.1.2.2.2, h.2⟩
/-- list(range(a, b)) -/
theorem mn_listRg2 {p p2 pos2 : Pos} (hc : X.calm = true) (bn : BN X "list") (bn2 : BN X "range") (ha : PE X a (tE X.K W (evE cl ma))) (hb : PE X b (tE X.K W (evE cl mb)))
    (he : starEach [.Call (.Name "range" p2) [a, b] [] pos2] X.env = (false, eval (.Call (.Name "range" p2) [a, b] [] pos2) X.env) :: starEach [] X.env) (he2 : starEach [a, b] X.env = (false, eval a X.env) :: starEach [b] X.env) (he3 : starEach [b] X.env = (false, eval b X.env) :: starEach [] X.env) :
    PE X (.Call (.Name "list" p) [.Call (.Name "range" p2) [a, b] [] pos2] [] pos) (tN X.K W (evN cl (.listRg ma mb))) := by
  refine imp_PE (pe_listRg hc bn.gl bn.none (prg_2 bn2.gl bn2.none ha hb he2 he3 (by rw [he3]; rfl)) he) fun σ H Q h => ?_
  obtain ⟨L, φ, M, lr, mh, p⟩ := h
  refine tE_use lr mh (PR.bind (show PR X.K W σ φ H ((evE cl ma L M).bind fun x M1 => (evE cl mb L M1).bind fun y M2 => match x, y with | .int i, .int j => if rgOk i j && decide ((j - i).toNat ≤ 2 ^ 24) then .ok (D.lst (rgL i j)) M2 else .bad | _, _ => .bad) _ from p)) fun d M1 φ1 H1 v e1 m1 g1 r1 => ?_
  refine tE_use (lr.ext e1) m1 g1.bind fun d2 M2 φ2 H2 v2 e2 m2 g2 r2 => ?_
  split at g2
  · cases r1
    cases r2
    split at g2
    · rename_i hk
      exact ⟨_, _, rfl, rfl, rgOk_is hk, fun q hq => g2.here m2 _ q (.lst (reps_rg _ _)) hq⟩
    · exact False.elim g2
  · exact False.elim g2
theorem mn_listRg1 {p p2 pos2 : Pos} (hc : X.calm = true) (bn : BN X "list") (bn2 : BN X "range") (ha : PE X a (tE X.K W (evE cl ma)))
    (he : starEach [.Call (.Name "range" p2) [a] [] pos2] X.env = (false, eval (.Call (.Name "range" p2) [a] [] pos2) X.env) :: starEach [] X.env) (he2 : starEach [a] X.env = (false, eval a X.env) :: starEach [] X.env) :
    PE X (.Call (.Name "list" p) [.Call (.Name "range" p2) [a] [] pos2] [] pos) (tN X.K W (evN cl (.listRg (.lit (.int 0)) ma))) := by
  refine imp_PE (pe_listRg hc bn.gl bn.none (prg_1 bn2.gl bn2.none ha he2) he) fun σ H Q h => ?_
  obtain ⟨L, φ, M, lr, mh, p⟩ := h
  refine tE_use lr mh (PR.bind (show PR X.K W σ φ H ((evE cl ma L M).bind fun y M2 => match D.int 0, y with | .int i, .int j => if rgOk i j && decide ((j - i).toNat ≤ 2 ^ 24) then .ok (D.lst (rgL i j)) M2 else .bad | _, _ => .bad) _ from p)) fun d2 M2 φ2 H2 v2 e2 m2 g2 r2 => ?_
  cases d2 with
  | int j =>
    cases r2
    by_cases hk : (rgOk 0 j && decide ((j - 0).toNat ≤ 2 ^ 24)) = true
    · replace g2 := show PR X.K W σ φ2 H2 (if rgOk 0 j && decide ((j - 0).toNat ≤ 2 ^ 24) then .ok (D.lst (rgL 0 j)) M2 else .bad) _ from g2
      rw [if_pos hk] at g2
      exact ⟨_, rfl, rgOk_is hk, fun q hq => g2.here m2 _ q (.lst (reps_rg _ _)) hq⟩
    · replace g2 := show PR X.K W σ φ2 H2 (if rgOk 0 j && decide ((j - 0).toNat ≤ 2 ^ 24) then .ok (D.lst (rgL 0 j)) M2 else .bad) _ from g2
      rw [if_neg hk] at g2
      exact False.elim g2
  | _ => exact False.elim g2
end

/-! ### sorted: of a list or of a tuple of ints -/
section
variable {prog : Program} {w : World} {A : Around} {E : Value → Shared → Prop} {s : Shared}
theorem collect_tuple {l : Addr} {vs : List Value} {Q : List Value → Shared → Prop} (hl : IsTup s.heap l vs.toArray)
    (h : Q vs { s with heap := (s.heap.push (seqObj "list" #[] 0)).update s.heap.objs.size (Obj.mapSeq (· ++ vs.toArray)) }) (hsz : vs.length ≤ sizeLine) :
    wpAny (model prog w) A (collect (.ref l)) Q E s := by
  obtain ⟨o, ho, hc, n, hd⟩ := id hl
  unfold collect
  refine wpAny_bind (wpAny_runValue (codeAny_builtin entry_proto_collect' ?_))
  show wpAny _ _ (do again (.builtin "list.__iadd__" ⟨[← newList [], .ref l], []⟩)) _ _ s
  refine wpAny_bind (wpAny_newList (wpAny_pure ⟨Code.quiet_builtin _ (by decide +kernel), codeAny_builtin entry_list_iadd' ?_⟩))
  show wpAny _ _ (Builtin.List.listExtendWith (.ref s.heap.objs.size) (.ref l) (.ref s.heap.objs.size)) _ _ { s with heap := s.heap.push (seqObj "list" #[] 0) }
  unfold Builtin.List.listExtendWith
  have ho' : (s.heap.push (seqObj "list" #[] 0)).get? l = some o := Heap.get?_push_of_some _ ho
  refine wpAny_bind (wpAny_typeOf (T := "tuple") ⟨o, ho', hc⟩ ?_)
  have ht : (Value.type "tuple" == Value.type "tuple") = true := by rfl
  rw [if_pos (by rw [ht]; simp)]
  refine wpAny_bind (listItems_at ho' hd ?_)
  refine wpAny_bind (listItems_at (xs := #[]) (n := 0) (Heap.get?_push_size _ rfl) rfl ?_)
  rw [if_neg (by simp)]
  refine wpAny_bind (listUpdate_at (xs := #[]) (n := 0) (Heap.get?_push_size _ rfl) rfl ?_ (Nat.zero_le _) (by show (#[] ++ vs.toArray).size ≤ sizeLine + 1; simp only [Array.size_append, List.size_toArray, List.length_nil]; omega))
  refine wpAny_pure ?_
  show wpAny (model prog w) A (do
      let o ← load s.heap.objs.size
      match o.data with
      | .seq xs _ => pure xs.toList
      | _ => unsupported "internal:collect") Q E { s with heap := (s.heap.push (seqObj "list" #[] 0)).update s.heap.objs.size (Obj.mapSeq (· ++ vs.toArray)) }
  refine wpAny_bind (wpAny_load (get?_update_seq (Heap.get?_push_size _ rfl) _) ?_)
  show wpAny _ _ (pure ((#[] : Array Value) ++ vs.toArray).toList) Q E _
  rw [show ((#[] : Array Value) ++ vs.toArray).toList = vs by simp]
  exact wpAny_pure h
open SrtO in
theorem sorted_ordT {l : Addr} {vs : List Value} {ltv : Value → Value → Bool} {Q : Value → Shared → Prop} (O : Swo ltv) (hl : IsTup s.heap l vs.toArray) (hz : vs.length ≤ sizeLine)
    (hS : 2 ≤ vs.length → ∀ (h₁ : Heap) (a : Addr), h₁.get? a = some (seqObj "list" vs.toArray 0) → (∀ b o, s.heap.get? b = some o → b ≠ a ∧ h₁.get? b = some o) → SortableO prog w A.in1.in1 { s with heap := h₁ } a vs ltv)
    (h : ∀ out : List Value, Srtd ltv out → Stb ltv out vs → Q (.ref (s.heap.objs.size + 1)) { s with heap := sortedAll s.heap vs out.toArray }) :
    wpAny (model prog w) A (call (.builtin "sorted") [.ref l]) Q E s := by
  refine Calls.call_function_entry kind_sorted plain_sorted entry_sorted (args_sorted1 _) ?_
  unfold Builtin.«sorted»
  refine wpAny_bind (m := checkCount "sorted" 1 1 _) (wpAny_pure ?_)
  refine wpAny_bind (collect_tuple hl ?_ hz)
  refine wpAny_bind (wpAny_newList ?_ hz)
  have hsz : ((s.heap.push (seqObj "list" #[] 0)).update s.heap.objs.size (Obj.mapSeq (· ++ vs.toArray))).objs.size = s.heap.objs.size + 1 := by
    rw [Heap.size_update, size_push']
  have hoL : (((s.heap.push (seqObj "list" #[] 0)).update s.heap.objs.size (Obj.mapSeq (· ++ vs.toArray))).push (seqObj "list" vs.toArray 0)).get? (s.heap.objs.size + 1) = some (seqObj "list" vs.toArray 0) := by
    rw [← hsz]; exact Heap.get?_push_size _ rfl
  have keep : ∀ b o, s.heap.get? b = some o → b ≠ s.heap.objs.size + 1 ∧ (((s.heap.push (seqObj "list" #[] 0)).update s.heap.objs.size (Obj.mapSeq (· ++ vs.toArray))).push (seqObj "list" vs.toArray 0)).get? b = some o := fun b o q => by
    have hlt : b < s.heap.objs.size := Heap.lt_size q
    refine ⟨Nat.ne_of_lt (Nat.lt_succ_of_lt hlt), Heap.get?_push_of_some _ ?_⟩
    rw [Heap.get?_update_ne _ _ _ _ (Nat.ne_of_lt hlt)]
    exact Heap.get?_push_of_some _ q
  show wpAny _ _ _ _ _ { s with heap := ((s.heap.push (seqObj "list" #[] 0)).update s.heap.objs.size (Obj.mapSeq (· ++ vs.toArray))).push (seqObj "list" vs.toArray 0) }
  rw [hsz]
  refine wpAny_bind (wpAny_holding (wpAny_call_entry slot_list_sort ⟨_, hoL, rfl⟩ entry_list_sort (list_sort_ord O hoL hz (fun h2 => hS h2 _ _ hoL keep) fun out hs hb => ⟨_, rfl, ?_⟩) (args_list_sort _)))
  exact wpAny_pure ⟨_, rfl, h out hs hb⟩
end
section
variable {X : Cx}
theorem cr_sortedT (X : Cx) : CallR X (.builtin "sorted") (fun vs H Q => ∃ (a : Addr) (ns : List Int), vs = [V.ref a] ∧ SqT X.K H a (ns.map V.int) ∧
  ∀ (ns' : List Int) (p : Addr), ns'.Perm ns → ns'.Pairwise (· ≤ ·) → H p = none → Q (.ref p) (upd H p (.lst (ns'.map V.int)))) := by
  intro pins s σ H vs us Q I r h
  obtain ⟨a, ns, rfl, hs, q⟩ := h
  obtain ⟨its, rv, hl, hz⟩ := I.tuple hs
  rw [Vals.ref1 r]
  have hi := rv.ints
  refine sorted_ordT SrtO.swo_int hl (by rw [← rv.length]; exact hz) (fun h2 h₁ a' _ _ => SrtO.ints_sortable hi h2) fun out h1 h2 => ?_
  obtain ⟨k1, k2, k3⟩ := SrtO.ints_out hi h1 h2
  obtain ⟨ep, he'⟩ := PyProof.Rows.sortedAll_at s.heap its out.toArray
  have hlen : ((out.map SrtO.iv).map V.int).length ≤ sizeLine := by
    rw [List.length_map, k2.length_eq]
    rw [List.length_map] at hz
    exact hz
  exact ⟨.ref _, upd H (s.heap.objs.size + 1) (.lst ((out.map SrtO.iv).map V.int)), I.laid (t' := s.toks) (fun _ _ => PyProof.Rows.sortedAll_old) (Nat.le_succ _) ⟨hlen, out, ep, vals_of_ints k1, he'⟩, rfl, q _ _ k2 k3 (I.hok.fresh (Nat.le_succ _))⟩
end
theorem sortI_is {ns ns' : List Int} (h1 : ns'.Perm ns) (h2 : ns'.Pairwise (· ≤ ·)) : ns' = sortI ns := by
  unfold sortI
  have a := List.mergeSort_perm ns (fun a b => decide (a ≤ b))
  have b : (ns.mergeSort (fun a b => decide (a ≤ b))).Pairwise (fun a b => decide (a ≤ b) = true) := List.pairwise_mergeSort (le := fun (a b : Int) => decide (a ≤ b)) (fun a b c h h' => by simp at h h' ⊢; omega) (fun a b => by simp; omega) ns
  exact (h1.trans a.symm).eq_of_pairwise (fun x y _ _ h1 h2 => Int.le_antisymm h1 h2) h2 (b.imp fun h => by simpa using h)
section
variable {X : Cx} {W : WX} {cl : Cl} {a b c : Expr} {ma mb mc : E} {pos : Pos} {es : List Expr} {ms : Es}
theorem mn_sorted {p : Pos} (bn : BN X "sorted") (ha : PE X a (tE X.K W (evE cl ma))) (he : starEach [a] X.env = (false, eval a X.env) :: starEach [] X.env) : PE X (.Call (.Name "sorted" p) [a] [] pos) (tN X.K W (evN cl (.sorted ma))) := by
  refine imp_PE (pe_callB (cr_sortedI.or (cr_sortedT X)) bn.gl bn.none (by decide +kernel) (pa_cons ha pa_nil he) (by decide) (by decide) he rfl) fun σ H Q h => ?_
  obtain ⟨L, φ, M, lr, mh, p⟩ := h
  refine tE_use lr mh (PR.bind (show PR X.K W σ φ H ((evE cl ma L M).bind fun x M1 => match cont M1 x with
      | some (.lst l) => ofO ((allInts l).map fun ns => D.lst ((sortI ns).map .int)) M1
      | some (.tup l) => ofO ((allInts l).map fun ns => D.lst ((sortI ns).map .int)) M1
      | _ => .bad) _ from p)) fun d M1 φ1 H1 v e1 m1 g1 r1 => ?_
  show rSortedI X.K [v] H1 Q ∨ _
  split at g1
  · rename_i l hl
    obtain ⟨q, ys, rfl, sq, r⟩ := lst_at m1 r1 hl
    cases hn : allInts l with
    | none => rw [hn] at g1; exact False.elim g1
    | some ns =>
      rw [hn] at g1
      rw [(r.ints hn).1] at sq
      refine .inl ⟨q, ns, rfl, SqL.of sq, fun ns' p h1 h2 hp => ?_⟩
      rw [sortI_is h1 h2]
      exact (show PR X.K W σ φ1 H1 (.ok (D.lst ((sortI ns).map .int)) M1) _ from g1).here m1 _ p (.lst (reps_ints _)) hp
  · rename_i l hl
    cases tup_at m1 r1 hl
    obtain ⟨q, ys, rfl, sq, r⟩ := r1.sqT
    cases hn : allInts l with
    | none => rw [hn] at g1; exact False.elim g1
    | some ns =>
      rw [hn] at g1
      rw [(r.ints hn).1] at sq
      refine .inr ⟨q, ns, rfl, sq, fun ns' p h1 h2 hp => ?_⟩
      rw [sortI_is h1 h2]
      exact (show PR X.K W σ φ1 H1 (.ok (D.lst ((sortI ns).map .int)) M1) _ from g1).here m1 _ p (.lst (reps_ints _)) hp
  · exact False.elim g1

/-! ### calls of built-ins, methods, subscripts, slices -/
def nmOf : Blt → Str
  | .len => "len" | .abs => "abs" | .int => "int" | .max => "max" | .min => "min" | .sum => "sum" | .all => "all" | .any => "any" | .isinst => "isinstance" | .repr => "repr" | .tuple => "tuple"
theorem use_blt {f : Blt} {σ : L2.St} {H : Hp} {Q : VK} (h : tE X.K W (evE cl (.blt f ms)) σ H Q) : tCB (rC X.K fun M vs => bltS M f vs) (tEs X.K W (evEs cl ms)) σ H Q := by
  obtain ⟨L, φ, M, lr, mh, p⟩ := h
  refine tEs_use lr mh (PR.bind (show PR X.K W σ φ H ((evEs cl ms L M).bind fun vs M1 => ofO (bltS M1 f vs) M1) _ from p)) fun ds M1 φ1 H1 vs e1 m1 g1 r1 => ?_
  cases hd : bltS M1 f ds with
  | none => rw [hd] at g1; exact False.elim g1
  | some d =>
    rw [hd] at g1
    exact ⟨φ1, M1, ds, d, m1, r1, hd, fun φ' H' v e m r => g1 φ' H' e m v r⟩
theorem me_blt {f : Blt} {p : Pos} (hc : X.calm = true) (bn : BN X (nmOf f)) (ha : PA X (a :: es) (tEs X.K W (evEs cl ms))) (he : starEach (a :: es) X.env = (false, eval a X.env) :: starEach es X.env) (hpl : (backTo pos (starEach es X.env)).any (·.1) = false) :
    PE X (.Call (.Name (nmOf f) p) (a :: es) [] pos) (tE X.K W (evE cl (.blt f ms))) := by
  cases f with
  | int => exact imp_PE (pe_callTy (or_blt hc .int) bn.gl bn.none (by decide +kernel) ha (by decide) (by decide) he hpl) fun σ H Q h => use_blt h
  | tuple => exact imp_PE (pe_callTy (or_blt hc .tuple) bn.gl bn.none (by decide +kernel) ha (by decide) (by decide) he hpl) fun σ H Q h => use_blt h
  | len => exact imp_PE (pe_callB (or_blt hc .len) bn.gl bn.none (by decide +kernel) ha (by decide) (by decide) he hpl) fun σ H Q h => use_blt h
  | abs => exact imp_PE (pe_callB (or_blt hc .abs) bn.gl bn.none (by decide +kernel) ha (by decide) (by decide) he hpl) fun σ H Q h => use_blt h
  | max => exact imp_PE (pe_callB (or_blt hc .max) bn.gl bn.none (by decide +kernel) ha (by decide) (by decide) he hpl) fun σ H Q h => use_blt h
  | min => exact imp_PE (pe_callB (or_blt hc .min) bn.gl bn.none (by decide +kernel) ha (by decide) (by decide) he hpl) fun σ H Q h => use_blt h
  | sum => exact imp_PE (pe_callB (or_blt hc .sum) bn.gl bn.none (by decide +kernel) ha (by decide) (by decide) he hpl) fun σ H Q h => use_blt h
  | all => exact imp_PE (pe_callB (or_blt hc .all) bn.gl bn.none (by decide +kernel) ha (by decide) (by decide) he hpl) fun σ H Q h => use_blt h
  | any => exact imp_PE (pe_callB (or_blt hc .any) bn.gl bn.none (by decide +kernel) ha (by decide) (by decide) he hpl) fun σ H Q h => use_blt h
  | isinst => exact imp_PE (pe_callB (or_blt hc .isinst) bn.gl bn.none (by decide +kernel) ha (by decide) (by decide) he hpl) fun σ H Q h => use_blt h
  | repr => exact imp_PE (pe_callB (or_blt hc .repr) bn.gl bn.none (by decide +kernel) ha (by decide) (by decide) he hpl) fun σ H Q h => use_blt h
def mnOf : Mth → Str
  | .append => "append" | .extend => "extend" | .count => "count" | .index => "index" | .insert => "insert"
theorem use_mth {f : Mth} {σ : L2.St} {H : Hp} {Q : VK} (h : tE X.K W (evE cl (.mth f ma ms)) σ H Q) : tBM X.K "list" (rMt X.K fun M x vs => mthS M f x vs) (tE X.K W (evE cl ma)) (tEs X.K W (evEs cl ms)) σ H Q := by
  obtain ⟨L, φ, M, lr, mh, p⟩ := h
  refine tE_use lr mh (PR.bind (show PR X.K W σ φ H ((evE cl ma L M).bind fun x M1 => if mthK M1 x then (evEs cl ms L M1).bind fun vs M2 => (match mthS M2 f x vs with | some (d, M3) => .ok d M3 | none => .bad) else .bad) _ from p)) fun d M1 φ1 H1 v e1 m1 g1 r1 => ?_
  split at g1
  · rename_i hk
    unfold mthK at hk
    split at hk
    · rename_i l hl
      obtain ⟨q, ys, rfl, sq, r⟩ := lst_at m1 r1 hl
      refine ⟨.inl ⟨rfl, ys, SqL.of sq⟩, ?_⟩
      refine tEs_use (lr.ext e1) m1 g1.bind fun ds M2 φ2 H2 vs e2 m2 g2 r2 => ?_
      cases hd : mthS M2 f d ds with
      | none => rw [hd] at g2; exact False.elim g2
      | some dm =>
        obtain ⟨d', M3⟩ := dm
        rw [hd] at g2
        exact ⟨φ2, M2, d, ds, d', M3, m2, Rep.ext e2 _ _ r1, r2, hd, fun φ' H' v e m r => g2 φ' H' e m v r⟩
    · cases hk
  · exact False.elim g1
theorem me_mth {f : Mth} {apos : Pos} (ho : PE X b (tE X.K W (evE cl ma))) (ha : PA X (a :: es) (tEs X.K W (evEs cl ms))) (hbase : attributeBase b (mnOf f) X.env (eval b X.env) = eval b X.env)
    (hfew : ((backTo pos (starEach (a :: es) X.env)).all (fun x => !x.1) && (backToKw pos (keywordEach [] X.env)).all (fun x => x.1.isSome)
      && decide ((a :: es).length + ([] : List Keyword).length + (if ([] : List Keyword).isEmpty then 0 else 1) < 30)) = true)
    (hline : (apos.endLine == pos.line) = true) (he : starEach (a :: es) X.env = (false, eval a X.env) :: starEach es X.env) (hpl : (backTo pos (starEach es X.env)).any (·.1) = false) :
    PE X (.Call (.Attribute b (mnOf f) apos) (a :: es) [] pos) (tE X.K W (evE cl (.mth f ma ms))) := by
  cases f with
  | append => exact imp_PE (pe_bm PySem.F.plainAttrs_list PySem.F.slot_list_append PySem.F.type_list_append (or_mth .append) ho ha hbase hfew hline he hpl) fun σ H Q h => use_mth h
  | extend => exact imp_PE (pe_bm PySem.F.plainAttrs_list PySem.F.slot_list_extend PySem.F.type_list_extend (or_mth .extend) ho ha hbase hfew hline he hpl) fun σ H Q h => use_mth h
  | count => exact imp_PE (pe_bm PySem.F.plainAttrs_list PySem.F.slot_list_count PySem.F.type_list_count (or_mth .count) ho ha hbase hfew hline he hpl) fun σ H Q h => use_mth h
  | index => exact imp_PE (pe_bm PySem.F.plainAttrs_list PySem.F.slot_list_index PySem.F.type_list_index (or_mth .index) ho ha hbase hfew hline he hpl) fun σ H Q h => use_mth h
  | insert => exact imp_PE (pe_bm PySem.F.plainAttrs_list PySem.F.slot_list_insert PySem.F.type_list_insert (or_mth .insert) ho ha hbase hfew hline he hpl) fun σ H Q h => use_mth h
theorem me_idx (ha : PE X a (tE X.K W (evE cl ma))) (hb : PE X b (tE X.K W (evE cl mb))) (hs : PlainIx b) : PE X (.Subscript a b pos) (tE X.K W (evE cl (.idx ma mb))) :=
  imp_PE (pe_ix or_idx ha hb hs) fun σ H Q h => use2 (tE_eq (fun L M => rfl) h)
/-- a slice's part -/
def tP (K : PySem.W.Frag) (W : WX) (m : Lo → List D → R (Option Int)) : TO := fun σ H Q => ∃ L φ M, LR K φ H L σ ∧ MH K φ H M ∧ PR K W σ φ H (m L M) fun o M' φ' H' => Q o H'
theorem mp_none : PO X none (tP X.K W (evP cl .nil)) := by
  refine imp_PO po_none fun σ H Q h => ?_
  obtain ⟨L, φ, M, lr, mh, p⟩ := h
  exact (show PR X.K W σ φ H (.ok (none : Option Int) M) _ from p).here mh
theorem mp_some (ha : PE X a (tE X.K W (evE cl ma))) : PO X (some a) (tP X.K W (evP cl (.cons ma .nil))) := by
  refine imp_PO (po_some ha) fun σ H Q h => ?_
  obtain ⟨L, φ, M, lr, mh, p⟩ := h
  refine tE_use lr mh (PR.bind (show PR X.K W σ φ H ((evE cl ma L M).bind fun d M1 => match d with | .int i => .ok (some i) M1 | _ => .bad) _ from p)) fun d M1 φ1 H1 v e1 m1 g1 r1 => ?_
  cases d <;> first | exact False.elim g1 | skip
  cases r1
  exact ⟨_, rfl, g1.here m1⟩
theorem me_slc {lo hi : Option Expr} {ml mh' : Es} {p2 : Pos} (ha : PE X a (tE X.K W (evE cl ma))) (hl : PO X lo (tP X.K W (evP cl ml))) (hh : PO X hi (tP X.K W (evP cl mh'))) : PE X (.Subscript a (.Slice lo hi none p2) pos) (tE X.K W (evE cl (.slc ma ml mh'))) := by
  refine imp_PE (pe_slice or_slc ha hl hh) fun σ H Q h => ?_
  obtain ⟨L, φ, M, lr, mh, p⟩ := h
  refine tE_use lr mh (PR.bind (show PR X.K W σ φ H ((evE cl ma L M).bind fun x M1 => (evP cl ml L M1).bind fun u M2 => (evP cl mh' L M2).bind fun v M3 => ofO (slcS M3 x u v) M3) _ from p)) fun d M1 φ1 H1 v e1 m1 g1 r1 => ?_
  refine ⟨L, φ1, M1, lr.ext e1, m1, g1.bind.mono fun u M2 φ2 H2 e2 m2 g2 => ?_⟩
  refine ⟨L, φ2, M2, (lr.ext e1).ext e2, m2, g2.bind.mono fun w M3 φ3 H3 e3 m3 g3 => ?_⟩
  cases hd : slcS M3 d u w with
  | none => rw [hd] at g3; exact False.elim g3
  | some d' =>
    rw [hd] at g3
    exact ⟨φ3, M3, d, d', m3, Rep.ext (e2.trans e3) _ _ r1, hd, fun φ' H' v e m r => g3 φ' H' e m v r⟩
theorem Reps.rev {K : PySem.W.Frag} {φ : Ph} {H : Hp} : ∀ {l : List D} {vs : List V}, Reps K φ H l vs → Reps K φ H l.reverse vs.reverse
  | [], vs, h => by
    cases h
    exact .nil
  | a :: r, vs, h => by
    cases h with
    | cons h1 h2 =>
      rw [List.reverse_cons, List.reverse_cons]
      exact (Reps.rev h2).append (.cons h1 .nil)
theorem me_rev {k : Nat} {i : Int} {p1 p2 p3 : Pos} (hi : i = 1) (ha : PE X a (tE X.K W (evE cl ma))) : PE X (.Subscript a (.Slice none none (some (.UnaryOp .USub (.Constant (.int i) k p1) p2)) p3) pos) (tE X.K W (evE cl (.rev ma))) := by
  subst hi
  refine imp_PE (pe_revA ha) fun σ H Q h => ?_
  obtain ⟨L, φ, M, lr, mh, p⟩ := h
  refine tE_use lr mh (PR.bind (show PR X.K W σ φ H ((evE cl ma L M).bind fun x M1 => ofO (revS M1 x) M1) _ from p)) fun d M1 φ1 H1 v e1 m1 g1 r1 => ?_
  cases hd : revS M1 d with
  | none => rw [hd] at g1; exact False.elim g1
  | some d' =>
    rw [hd] at g1
    have q : ∀ φ' H' v, Ext φ1 H1 φ' H' → MH X.K φ' H' M1 → Rep X.K φ' H' d' v → Q v H' := fun φ' H' v e m r => g1 φ' H' e m v r
    unfold revS at hd
    split at hd
    · rename_i l hl
      cases hd
      cases tup_at m1 r1 hl
      obtain ⟨p, xs, rfl, sq, r⟩ := r1.sqT
      exact .inr ⟨p, xs, rfl, sq, fun p hp => end_tup m1 hp r.rev q⟩
    · rename_i l hl
      cases hd
      obtain ⟨p, xs, rfl, sq, r⟩ := lst_at m1 r1 hl
      exact .inl ⟨p, xs, rfl, SqL.of sq, fun p hp => end_lst m1 hp r.rev q⟩
    · cases hd
end
end MP
/-! MiniPy 8: calls of defs, what is walked. -/
namespace MP
open PySem PySem.Spec PyProof.Rows L2
variable [TabC]

/-! ### calls of defs -/
def spG (K : PySem.W.Frag) (g : List D → List D → R D) : Sp := fun vs H Q E => ∃ φ M args, MH K φ H M ∧ Reps K φ H args vs ∧ PR K (fun c d _ H => E c d H) [] φ H (g args M) fun d _ φ' H' => ∀ v, Rep K φ' H' d v → Q v H'
section
variable {X : Cx} {W : WX} {cl : Cl} {a b c : Expr} {ma mb mc : E} {pos : Pos} {es : List Expr} {ms : Es}
theorem me_call {k n : Nat} {f : Addr} {fd : FuncData} {ps : List Str} {x : Str} {p : Pos} (F : FnOk X.prog X.w X.K X.mg X.base (L2.CX X.prog X.w) k f fd ps (spG X.K (cl.call n))) (hr : Room k X.A) (hg : Gl X x) (hm : X.mg x = some (.ref f)) (hk : PySem.W.keepIn X.K (.ref f) = true) (hb : Binds X.K fd ps [])
    (tk : Takes X W) (ha : PA X (a :: es) (tEs X.K W (evEs cl ms))) (hdb : (x == ("__debug__" : Str)) = false) (he : starEach (a :: es) X.env = (false, eval a X.env) :: starEach es X.env) (hpl : (backTo pos (starEach es X.env)).any (·.1) = false) :
    PE X (.Call (.Name x p) (a :: es) [] pos) (tE X.K W (evE cl (.call n ms))) := by
  refine imp_PE (pe_callS F hr hg hm hk hb (passAt tk) ha hdb he hpl) fun σ H Q h => ?_
  obtain ⟨L, φ, M, lr, mh, p⟩ := h
  refine tEs_use lr mh (PR.bind (show PR X.K W σ φ H ((evEs cl ms L M).bind fun vs M1 => cl.call n vs M1) _ from p)) fun ds M1 φ1 H1 vs e1 m1 g1 r1 => ?_
  refine ⟨φ1, M1, ds, m1, r1, ?_⟩
  cases hc : cl.call n ds M1 with
  | ok d M2 => rw [hc] at g1; exact g1
  | exc c e M2 => rw [hc] at g1; exact g1
  | bad => rw [hc] at g1; exact g1
end

/-! ### going on where what is barred may change -/
structure Ex1 (φ : Ph) (H : Hp) (φ' : Ph) (H' : Hp) : Prop where
  pre : ∃ t, φ.f ++ t = φ'.f
  keep : ∀ b o, H b = some o → NT o → Out φ b → H' b = some o ∧ Out φ' b
section
variable {K : PySem.W.Frag} {φ φ1 φ2 : Ph} {H H1 H2 : Hp}
theorem Ext.weak (e : Ext φ H φ1 H1) : Ex1 φ H φ1 H1 := ⟨e.pre, fun b o h nt n => e.out h nt n⟩
theorem Ex1.refl : Ex1 φ H φ H := Ext.refl.weak
theorem Ex1.trans (a : Ex1 φ H φ1 H1) (b : Ex1 φ1 H1 φ2 H2) : Ex1 φ H φ2 H2 := by
  obtain ⟨⟨t, e⟩, k⟩ := a
  obtain ⟨⟨t', e'⟩, k'⟩ := b
  refine ⟨⟨t ++ t', by rw [← e', ← e, List.append_assoc]⟩, fun x o h nt n => ?_⟩
  obtain ⟨h1, n1⟩ := k x o h nt n
  exact k' x o h1 nt n1
theorem Ex1.get (e : Ex1 φ H φ1 H1) {n : Nat} {a : Addr} (h : φ.f[n]? = some a) : φ1.f[n]? = some a := by
  obtain ⟨⟨t, e⟩, _⟩ := e
  rw [← e, List.getElem?_append_left (List.getElem?_eq_some_iff.mp h).1]
  exact h
mutual
theorem Rep.ex1 (e : Ex1 φ H φ1 H1) : ∀ (d : D) (v : V), Rep K φ H d v → Rep K φ1 H1 d v
  | .non, _, h => by cases h; exact .non
  | .bl _, _, h => by cases h; exact .bl _
  | .int _, _, h => by cases h; exact .int _
  | .str _, _, h => by cases h; exact .str _
  | .ty _, _, h => by cases h; exact .ty _
  | .tup l, _, h => by
    cases h with
    | tup h1 h2 h3 => exact .tup (e.keep _ _ h1 (fun _ z => by cases z) h2).1 (e.keep _ _ h1 (fun _ z => by cases z) h2).2 (Reps.ex1 e _ _ h3)
    | tupK h1 h2 h3 h4 h5 h6 => exact .tupK h1 h2 h3 h4 h5 (Reps.ex1 e _ _ h6)
  | .lst l, _, h => by
    cases h with
    | lst h1 h2 h3 => exact .lst (e.keep _ _ h1 (fun _ z => by cases z) h2).1 (e.keep _ _ h1 (fun _ z => by cases z) h2).2 (Reps.ex1 e _ _ h3)
  | .scr l, _, h => by
    cases h with
    | scr h1 h3 => exact .scr (h1.mp e.keep) (Reps.ex1 e _ _ h3)
  | .dct l, _, h => by
    cases h with
    | dct0 h1 h2 => exact .dct0 (e.keep _ _ h1 (fun _ z => by cases z) h2).1 (e.keep _ _ h1 (fun _ z => by cases z) h2).2
  | .ref n, _, h => by
    cases h with
    | ref h1 => exact .ref (e.get h1)
theorem Reps.ex1 (e : Ex1 φ H φ1 H1) : ∀ (l : List D) (vs : List V), Reps K φ H l vs → Reps K φ1 H1 l vs
  | [], _, h => by cases h; exact .nil
  | d :: l, _, h => by
    cases h with
    | cons h1 h2 => exact .cons (Rep.ex1 e _ _ h1) (Reps.ex1 e _ _ h2)
end
theorem ObjAt.ex1 {d : D} {a : Addr} (h : ObjAt K φ H d a) (e : Ex1 φ H φ1 H1) (ha : H1 a = H a) : ObjAt K φ1 H1 d a := by
  cases h with
  | lst h1 h2 => exact .lst (ha.trans h1) (Reps.ex1 e _ _ h2)
  | dct0 h1 => exact .dct0 (ha.trans h1)
theorem LR.ex1 {L : Lo} {σ : L2.St} (l : LR K φ H L σ) (e : Ex1 φ H φ1 H1) : LR K φ1 H1 L σ :=
  ⟨l.len, fun i d h => let ⟨v, h1, h2⟩ := l.at_ i d h; ⟨v, h1, Rep.ex1 e _ _ h2⟩⟩

/-! ### what is walked -/
def WkIs (K : PySem.W.Frag) (φ0 : Ph) (H0 : Hp) (w : Wk) (J : It) : Prop := ∀ φ H M, Ex1 φ0 H0 φ H → MH K φ H M → w.ok M = true → ∀ i,
  (w.items.length ≤ i → J.stop i H) ∧ ∀ d, w.items[i]? = some d → J.go i H ∧ ∀ x H', J.yld i H x H' → Ext φ H φ H' ∧ MH K φ H' M ∧ Rep K φ H' d x
def tI (K : PySem.W.Frag) (W : WX) (m : Lo → List D → R Wk) : TI := fun σ H Rr => ∃ L φ M, LR K φ H L σ ∧ MH K φ H M ∧ PR K W σ φ H (m L M) fun w _ φ' H' => ∀ J, WkIs K φ' H' w J → Rr J H'
end

section
variable {X : Cx} {tg : Expr}
/-- a list or a tuple -/
def iSeq (K : PySem.W.Frag) (tl : TE) : TI := fun σ H Rr => tl σ H fun x H1 => ∃ a, x = .ref a ∧ ((∃ xs, SqL K H1 a xs ∧ Rr (Itl K a) H1) ∨ (∃ xs, SqT K H1 a xs ∧ Rr (Itt K a) H1))
theorem pi_seq {l : Expr} {tl : TE} (hl : PE X l tl) : PI X tg l (iSeq X.K tl) := by
  refine ⟨fun pins s σ H Rr I h => ?_⟩
  refine thn (hl.run pins s σ H _ I h) fun v s1 ⟨x, H1, I1, r1, q1⟩ => ?_
  obtain ⟨a, e, q1⟩ := q1
  subst e
  cases r1
  rcases q1 with ⟨xs, hq, q⟩ | ⟨xs, hq, q⟩
  · obtain ⟨its, rv, p, hz⟩ := I1.list hq
    refine wpAny_pyIter_list p.isList ?_
    refine ⟨s1.heap.objs.size, [s1.heap.objs.size], _, _, H1, rfl, I1.kept (t' := s1.toks) fun b o e => Heap.get?_push_of_some _ e, turn_list a _, ⟨_, Heap.get?_push_size _ rfl, rfl, rfl⟩, fun b hb => ?_, q⟩
    have e : b = s1.heap.objs.size := by simpa using hb
    subst e
    exact I1.fpOk (Nat.le_refl _) (I1.hok.fresh (Nat.le_refl _))
  · obtain ⟨its, rv, p, hz⟩ := I1.tuple hq
    refine wpAny_pyIter_tuple (show s1.heap.IsTuple a its.toArray from p) ?_
    refine ⟨s1.heap.objs.size, [s1.heap.objs.size], _, _, H1, rfl, I1.kept (t' := s1.toks) fun b o e => Heap.get?_push_of_some _ e, turn_tuple a _, ⟨_, Heap.get?_push_size _ rfl, rfl, rfl⟩, fun b hb => ?_, q⟩
    have e : b = s1.heap.objs.size := by simpa using hb
    subst e
    exact I1.fpOk (Nat.le_refl _) (I1.hok.fresh (Nat.le_refl _))
end

section
variable {K : PySem.W.Frag} {φ φ1 φ2 : Ph} {H H1 H2 : Hp}
theorem imp_PI' {X : Cx} {tg e : Expr} {t t' : TI} (h : PI X tg e t) (i : ∀ σ H Q, t' σ H Q → t σ H Q) : PI X tg e t' := ⟨fun pins s σ H Q I q => h.run pins s σ H Q I (i σ H Q q)⟩
/-- a list's content that stands -/
theorem wk_list {a : Addr} {l : List D} {n : Option Nat} (h : ∀ φ H M, Ex1 φ1 H1 φ H → MH K φ H M → (Wk.mk l n).ok M = true → ∃ xs, SqL K H a xs ∧ Reps K φ H l xs) : WkIs K φ1 H1 ⟨l, n⟩ (Itl K a) := by
  intro φ H M e m ok i
  obtain ⟨xs, sq, r⟩ := h φ H M e m ok
  refine ⟨fun hi => ⟨xs, sq, by rw [← r.length]; exact hi⟩, fun d hd => ?_⟩
  obtain ⟨v, h1, h2⟩ := r.get hd
  refine ⟨⟨xs, v, sq, h1⟩, fun x H' y => ?_⟩
  obtain ⟨rfl, y⟩ := y
  have ex : xs[i]? = some x := y xs sq
  rw [h1] at ex
  cases ex
  exact ⟨Ext.refl, m, h2⟩
theorem wk_tup {a : Addr} {l : List D} (h : ∀ φ H, Ex1 φ1 H1 φ H → ∃ xs, SqT K H a xs ∧ Reps K φ H l xs) : WkIs K φ1 H1 ⟨l, none⟩ (Itt K a) := by
  intro φ H M e m ok i
  obtain ⟨xs, sq, r⟩ := h φ H e
  refine ⟨fun hi => ⟨xs, sq, by rw [← r.length]; exact hi⟩, fun d hd => ?_⟩
  obtain ⟨v, h1, h2⟩ := r.get hd
  refine ⟨⟨xs, v, sq, h1⟩, fun x H' y => ?_⟩
  obtain ⟨rfl, y⟩ := y
  have ex : xs[i]? = some x := y xs sq
  rw [h1] at ex
  cases ex
  exact ⟨Ext.refl, m, h2⟩
theorem reps_int_at {l : List D} {i : Nat} {d : D} (a b : Int) (h : (rgL a b)[i]? = some d) : d = .int (a + (i : Nat)) ∧ i < (b - a).toNat := by
  unfold rgL at h
  rw [List.getElem?_map] at h
  by_cases hi : i < (b - a).toNat
  · rw [List.getElem?_range hi] at h
    cases h
    exact ⟨rfl, hi⟩
  · rw [List.getElem?_eq_none (by simpa using hi)] at h
    cases h
theorem wk_range (a b : Int) : WkIs K φ1 H1 ⟨rgL a b, none⟩ (Itr a (b - a).toNat) := by
  intro φ H M e m ok i
  refine ⟨fun hi => ?_, fun d hd => ?_⟩
  · have : (rgL a b).length = (b - a).toNat := by simp [rgL]
    show (b - a).toNat ≤ i
    rw [← this]
    exact hi
  · obtain ⟨rfl, hi⟩ := reps_int_at (l := []) a b hd
    refine ⟨hi, fun x H' y => ?_⟩
    obtain ⟨rfl, rfl⟩ := y
    exact ⟨Ext.refl, m, .int _⟩
theorem enumL_at : ∀ {l : List D} {k : Int} {i : Nat} {d : D}, (enumL k l)[i]? = some d → ∃ x, l[i]? = some x ∧ d = .tup [.int (k + (i : Nat)), x]
  | [], _, _, _, h => by simp [enumL] at h
  | x :: r, k, 0, d, h => by
    simp [enumL] at h
    subst h
    exact ⟨x, rfl, by simp⟩
  | x :: r, k, i + 1, d, h => by
    obtain ⟨y, h1, h2⟩ := enumL_at (l := r) (k := k + 1) (i := i) (by simpa [enumL] using h)
    refine ⟨y, by simpa using h1, ?_⟩
    rw [h2]
    have : k + 1 + (i : Int) = k + ((i + 1 : Nat) : Int) := by omega
    rw [this]
theorem enumL_len : ∀ (l : List D) (k : Int), (enumL k l).length = l.length
  | [], _ => rfl
  | x :: r, k => by simp [enumL, enumL_len r]
theorem zipL_at : ∀ {l r : List D} {i : Nat} {d : D}, (zipL l r)[i]? = some d → ∃ x y, l[i]? = some x ∧ r[i]? = some y ∧ d = .tup [x, y]
  | [], _, _, _, h => by simp [zipL] at h
  | _ :: _, [], _, _, h => by simp [zipL] at h
  | x :: l, y :: r, 0, d, h => by
    simp [zipL] at h
    subst h
    exact ⟨x, y, rfl, rfl, rfl⟩
  | x :: l, y :: r, i + 1, d, h => by
    obtain ⟨x', y', h1, h2, h3⟩ := zipL_at (l := l) (r := r) (i := i) (by simpa [zipL] using h)
    exact ⟨x', y', by simpa using h1, by simpa using h2, h3⟩
theorem zipL_len : ∀ {l r : List D} {i : Nat}, (zipL l r).length ≤ i → l.length ≤ i ∨ r.length ≤ i
  | [], _, _, _ => .inl (Nat.zero_le _)
  | _ :: _, [], _, _ => .inr (Nat.zero_le _)
  | x :: l, y :: r, 0, h => by simp [zipL] at h
  | x :: l, y :: r, i + 1, h => by
    have := zipL_len (l := l) (r := r) (i := i) (by simpa [zipL] using h)
    simpa using this
/-- a new pair for the walker -/
theorem pair_new {M : List D} {T : Addr} {x y : D} {v u : V} (m : MH K φ H M) (hT : H T = none) (r1 : Rep K φ H x v) (r2 : Rep K φ H y u) : Ext φ H φ (upd H T (.tup [v, u])) ∧ MH K φ (upd H T (.tup [v, u])) M ∧ Rep K φ (upd H T (.tup [v, u])) (.tup [x, y]) (.ref T) :=
  ⟨Ext.new hT, m.new hT, .tup upd_same (m.notin hT) (.cons (Rep.ext (Ext.new hT) _ _ r1) (.cons (Rep.ext (Ext.new hT) _ _ r2) .nil))⟩
theorem wk_enumL {a : Addr} {l : List D} (h : ∀ φ H, Ex1 φ1 H1 φ H → ∃ xs, SqL K H a xs ∧ Reps K φ H l xs) : WkIs K φ1 H1 ⟨enumL 0 l, none⟩ (Ite K a) := by
  intro φ H M e m ok i
  obtain ⟨xs, sq, r⟩ := h φ H e
  refine ⟨fun hi => ⟨xs, sq, ?_⟩, fun d hd => ?_⟩
  · rw [← r.length, ← enumL_len l 0]
    exact hi
  · obtain ⟨x, hx, rfl⟩ := enumL_at hd
    obtain ⟨v, h1, h2⟩ := r.get hx
    refine ⟨⟨xs, v, sq, h1⟩, fun u H' y => ?_⟩
    obtain ⟨T, w, rfl, hT, rfl, y⟩ := y
    have ex : xs[i]? = some w := y xs sq
    rw [h1] at ex
    cases ex
    have e0 : ((0 : Int) + (i : Nat)) = (i : Nat) := by omega
    rw [e0]
    exact pair_new m hT (.int _) h2
theorem wk_zipL {a b : Addr} {l k : List D} (h : ∀ φ H, Ex1 φ1 H1 φ H → ∃ xs ys, SqL K H a xs ∧ SqL K H b ys ∧ Reps K φ H l xs ∧ Reps K φ H k ys) : WkIs K φ1 H1 ⟨zipL l k, none⟩ (Itz K a b) := by
  intro φ H M e m ok i
  obtain ⟨xs, ys, s1, s2, r1, r2⟩ := h φ H e
  refine ⟨fun hi => ⟨xs, ys, s1, s2, ?_⟩, fun d hd => ?_⟩
  · rw [← r1.length, ← r2.length]
    exact zipL_len hi
  · obtain ⟨x, y, hx, hy, rfl⟩ := zipL_at hd
    obtain ⟨v, h1, h2⟩ := r1.get hx
    obtain ⟨u, h3, h4⟩ := r2.get hy
    refine ⟨⟨xs, ys, v, u, s1, s2, h1, h3⟩, fun z H' y => ?_⟩
    obtain ⟨T, w, t, rfl, hT, rfl, y1, y2⟩ := y
    have ex : xs[i]? = some w := y1 xs s1
    have ey : ys[i]? = some t := y2 ys s2
    rw [h1] at ex
    rw [h3] at ey
    cases ex
    cases ey
    exact pair_new m hT h2 h4
theorem wk_zipT {a b : Addr} {l k : List D} (h : ∀ φ H, Ex1 φ1 H1 φ H → ∃ xs ys, SqT K H a xs ∧ SqT K H b ys ∧ Reps K φ H l xs ∧ Reps K φ H k ys) : WkIs K φ1 H1 ⟨zipL l k, none⟩ (RZ.ItzT K a b) := by
  intro φ H M e m ok i
  obtain ⟨xs, ys, s1, s2, r1, r2⟩ := h φ H e
  refine ⟨fun hi => ⟨xs, ys, s1, s2, ?_⟩, fun d hd => ?_⟩
  · rw [← r1.length, ← r2.length]
    exact zipL_len hi
  · obtain ⟨x, y, hx, hy, rfl⟩ := zipL_at hd
    obtain ⟨v, h1, h2⟩ := r1.get hx
    obtain ⟨u, h3, h4⟩ := r2.get hy
    refine ⟨⟨xs, ys, v, u, s1, s2, h1, h3⟩, fun z H' y => ?_⟩
    obtain ⟨T, w, t, rfl, hT, rfl, y1, y2⟩ := y
    have ex : xs[i]? = some w := y1 xs s1
    have ey : ys[i]? = some t := y2 ys s2
    rw [h1] at ex
    rw [h3] at ey
    cases ex
    cases ey
    exact pair_new m hT h2 h4
/-! the content of a frozen one, later -/
theorem tup_later {l : List D} {a : Addr} (r : Rep K φ1 H1 (.tup l) (.ref a)) {φ : Ph} {H : Hp} (e : Ex1 φ1 H1 φ H) : ∃ xs, SqT K H a xs ∧ Reps K φ H l xs := by
  obtain ⟨b, xs, eq, sq, r'⟩ := (Rep.ex1 e _ _ r).sqT
  cases eq
  exact ⟨xs, sq, r'⟩
theorem lst_later {l : List D} {a : Addr} (r : Rep K φ1 H1 (.lst l) (.ref a)) {φ : Ph} {H : Hp} (e : Ex1 φ1 H1 φ H) : ∃ xs, SqL K H a xs ∧ Reps K φ H l xs := by
  cases Rep.ex1 e _ _ r with
  | lst h1 h2 h3 => exact ⟨_, SqL.of h1, h3⟩
theorem scr_later {l : List D} {a : Addr} (r : Rep K φ1 H1 (.scr l) (.ref a)) {φ : Ph} {H : Hp} (e : Ex1 φ1 H1 φ H) : ∃ xs, SqL K H a xs ∧ Reps K φ H l xs := by
  cases Rep.ex1 e _ _ r with
  | scr h1 h3 => exact ⟨_, h1.sq, h3⟩
end

section
variable {X : Cx} {W : WX} {cl : Cl} {a b c tg : Expr} {ma mb mc : E} {pos : Pos}
theorem mi_seq (ha : PE X a (tE X.K W (evE cl ma))) : PI X tg a (tI X.K W (evI cl (.seq ma))) := by
  refine imp_PI' (pi_seq ha) fun σ H Rr h => ?_
  obtain ⟨L, φ, M, lr, mh, p⟩ := h
  refine tE_use lr mh (PR.bind (show PR X.K W σ φ H ((evE cl ma L M).bind fun x M1 => ofO (seqS M1 x) M1) _ from p)) fun x M1 φ1 H1 v e1 m1 g1 r1 => ?_
  cases x with
  | tup l =>
    obtain ⟨q, xs, rfl, sq, r⟩ := r1.sqT
    exact ⟨q, rfl, .inr ⟨xs, sq, (show PR X.K W σ φ1 H1 (.ok (Wk.mk l none) M1) _ from g1).here m1 _ (wk_tup fun φ H e => tup_later r1 e)⟩⟩
  | lst l =>
    cases id r1 with
    | lst h1 h2 h3 => exact ⟨_, rfl, .inl ⟨_, SqL.of h1, (show PR X.K W σ φ1 H1 (.ok (Wk.mk l none) M1) _ from g1).here m1 _ (wk_list fun φ H M e _ _ => lst_later r1 e)⟩⟩
  | scr l =>
    cases id r1 with
    | scr h1 h3 => exact ⟨_, rfl, .inl ⟨_, h1.sq, (show PR X.K W σ φ1 H1 (.ok (Wk.mk l none) M1) _ from g1).here m1 _ (wk_list fun φ H M e _ _ => scr_later r1 e)⟩⟩
  | ref n =>
    replace g1 := show PR X.K W σ φ1 H1 (ofO (match M1[n]? with | some (.lst l) => some (Wk.mk l (some n)) | _ => none) M1) _ from g1
    split at g1
    · rename_i l hl
      obtain ⟨q, ys, rfl, sq, r⟩ := lst_at m1 r1 (show cont M1 (.ref n) = _ from hl)
      refine ⟨q, rfl, .inl ⟨ys, SqL.of sq, g1.here m1 _ (wk_list fun φ H M e m ok => ?_)⟩⟩
      unfold Wk.ok at ok
      simp only at ok
      split at ok
      · rename_i k hk
        rw [bqs_eq ok] at hk
        obtain ⟨q', ys', eq, sq', r'⟩ := lst_at m (Rep.ex1 e _ _ r1) (show cont M (.ref n) = _ from hk)
        cases eq
        exact ⟨ys', SqL.of sq', r'⟩
      · cases ok
    · exact False.elim g1
  | _ => exact False.elim g1
theorem rgOk_b {i j : Int} (h : rgOk i j = true) : -(2 ^ 62) ≤ i ∧ i < 2 ^ 62 ∧ -(2 ^ 62) ≤ j ∧ j < 2 ^ 62 := by
  unfold rgOk at h
  simp only [Bool.and_eq_true, decide_eq_true_eq] at h
  exact ⟨h.1, h.2.1, h.2.2.1, h.2.2.2⟩
theorem mi_range2 {p : Pos} (bn : BN X "range") (ha : PE X a (tE X.K W (evE cl ma))) (hb : PE X b (tE X.K W (evE cl mb))) (he2 : starEach [a, b] X.env = (false, eval a X.env) :: starEach [b] X.env) (he3 : starEach [b] X.env = (false, eval b X.env) :: starEach [] X.env) :
    PI X tg (.Call (.Name "range" p) [a, b] [] pos) (tI X.K W (evI cl (.range ma mb))) := by
  refine imp_PI' (pi_range2 bn.gl bn.none (pa_cons ha (pa_cons hb pa_nil he3) he2) (by rw [he2, he3]; rfl) (by rw [he3]; rfl)) fun σ H Rr h => ?_
  obtain ⟨L, φ, M, lr, mh, p⟩ := h
  refine tE_use lr mh (PR.bind (show PR X.K W σ φ H ((evE cl ma L M).bind fun x M1 => (evE cl mb L M1).bind fun y M2 => match x, y with | .int i, .int j => if rgOk i j then .ok (Wk.mk (rgL i j) none) M2 else .bad | _, _ => .bad) _ from p)) fun d M1 φ1 H1 v e1 m1 g1 r1 => ?_
  refine tE_use (lr.ext e1) m1 g1.bind fun d2 M2 φ2 H2 v2 e2 m2 g2 r2 => ?_
  split at g2
  · cases r1
    cases r2
    split at g2
    · rename_i hk
      exact ⟨_, _, rfl, rgOk_b hk, g2.here m2 _ (wk_range _ _)⟩
    · exact False.elim g2
  · exact False.elim g2
theorem mi_range1 {p : Pos} (bn : BN X "range") (ha : PE X a (tE X.K W (evE cl ma))) (he2 : starEach [a] X.env = (false, eval a X.env) :: starEach [] X.env) :
    PI X tg (.Call (.Name "range" p) [a] [] pos) (tI X.K W (evI cl (.range (.lit (.int 0)) ma))) := by
  refine imp_PI' (pi_range1 bn.gl bn.none (pa_cons ha pa_nil he2) (by rw [he2]; rfl)) fun σ H Rr h => ?_
  obtain ⟨L, φ, M, lr, mh, p⟩ := h
  refine tE_use lr mh (PR.bind (show PR X.K W σ φ H ((evE cl ma L M).bind fun y M2 => match D.int 0, y with | .int i, .int j => if rgOk i j then .ok (Wk.mk (rgL i j) none) M2 else .bad | _, _ => .bad) _ from p)) fun d2 M2 φ2 H2 v2 e2 m2 g2 r2 => ?_
  cases d2 with
  | int j =>
    cases r2
    by_cases hk : rgOk 0 j = true
    · replace g2 := show PR X.K W σ φ2 H2 (if rgOk 0 j then .ok (Wk.mk (rgL 0 j) none) M2 else .bad) _ from g2
      rw [if_pos hk] at g2
      obtain ⟨_, _, k1, k2⟩ := rgOk_b hk
      refine ⟨j, rfl, k1, k2, ?_⟩
      have q := g2.here m2 _ (wk_range _ _)
      rw [Int.sub_zero] at q
      exact q
    · replace g2 := show PR X.K W σ φ2 H2 (if rgOk 0 j then .ok (Wk.mk (rgL 0 j) none) M2 else .bad) _ from g2
      rw [if_neg hk] at g2
      exact False.elim g2
  | _ => exact False.elim g2
theorem mi_zip {p tpos : Pos} {elts : List Expr} {kk : Nat} (bn : BN X "zip") (ha : PE X a (tE X.K W (evE cl ma))) (hb : PE X b (tE X.K W (evE cl mb))) (he2 : starEach [a, b] X.env = (false, eval a X.env) :: starEach [b] X.env) (he3 : starEach [b] X.env = (false, eval b X.env) :: starEach [] X.env) :
    PI X (.Tuple elts kk tpos) (.Call (.Name "zip" p) [a, b] [] pos) (tI X.K W (evI cl (.zip ma mb))) := by
  refine imp_PI' (RZ.pi_zipA bn.gl bn.none (pa_cons ha (pa_cons hb pa_nil he3) he2) he2 (by rw [he3]; rfl)) fun σ H Rr h => ?_
  obtain ⟨L, φ, M, lr, mh, p⟩ := h
  refine tE_use lr mh (PR.bind (show PR X.K W σ φ H ((evE cl ma L M).bind fun x M1 => (evE cl mb L M1).bind fun y M2 => match x, y with | .tup l, .tup r => .ok (Wk.mk (zipL l r) none) M2 | .lst l, .lst r => .ok (Wk.mk (zipL l r) none) M2 | _, _ => .bad) _ from p)) fun d M1 φ1 H1 v e1 m1 g1 r1 => ?_
  refine tE_use (lr.ext e1) m1 g1.bind fun d2 M2 φ2 H2 v2 e2 m2 g2 r2 => ?_
  replace r1 := Rep.ext e2 _ _ r1
  split at g2
  · obtain ⟨q, xs, rfl, sq, _⟩ := r1.sqT
    obtain ⟨q2, xs2, rfl, sq2, _⟩ := r2.sqT
    refine ⟨q, q2, xs, xs2, rfl, .inr ⟨sq, sq2, g2.here m2 _ (wk_zipT fun φ H e => ?_)⟩⟩
    obtain ⟨ys, s1, t1⟩ := tup_later r1 e
    obtain ⟨ys2, s2, t2⟩ := tup_later r2 e
    exact ⟨ys, ys2, s1, s2, t1, t2⟩
  · cases id r1 with
    | lst h1 h2 h3 =>
      cases id r2 with
      | lst k1 k2 k3 =>
        refine ⟨_, _, _, _, rfl, .inl ⟨SqL.of h1, SqL.of k1, g2.here m2 _ (wk_zipL fun φ H e => ?_)⟩⟩
        obtain ⟨ys, s1, t1⟩ := lst_later r1 e
        obtain ⟨ys2, s2, t2⟩ := lst_later r2 e
        exact ⟨ys, ys2, s1, s2, t1, t2⟩
  · exact False.elim g2
end
end MP
/-! MiniPy 9: enumerate of a tuple, or of a list. -/
namespace MP
open PySem PySem.Spec PyProof.Rows L2
variable [TabC]
open AutoSeq1 (wpAny_loadPart')

theorem meets_enumerate_newT (l : Addr) (items : Array Value) (n : Nat) (dct : Option Addr) (sl : Array (Option Value)) :
    Meets (Builtin.«enumerate.__new__» ⟨[.type "enumerate", .ref l], []⟩) (fun _ R s => s.heap.get? l = some { cls := .type "tuple", dict := dct, data := .seq items n, slots := sl } ∧
      R (.ok (.ret (.ref (s.heap.push { cls := .type "tuple_iterator", data := .fields #[.ref l, .int 0 0] }).objs.size)))
        { s with heap := (s.heap.push { cls := .type "tuple_iterator", data := .fields #[.ref l, .int 0 0] }).push { cls := .type "enumerate", data := .fields #[.none, .bool false, .ref s.heap.objs.size, rawInt 0, .none, .none] } }) :=
  .of_wp fun prog w A R s h => by
    obtain ⟨hp, g, d, tk, os⟩ := s; obtain ⟨hl, h⟩ := h
    have hsub := sub_enumerate
    have hL : Heap.IsTuple (Shared.heap ⟨hp, g, d, tk, os⟩) l items := ⟨_, hl, rfl, n, rfl⟩
    wp_walk using wpAny_loadPart' hl
    refine wpAny_stack_any fun st => wpAny_pure ?_
    split
    · rename_i c _ _ _ _ _
      cases (c == Value.type "enumerate")
      · wp_walk using wpAny_loadPart' hl, wpAny_pyIter_tuple hL
        exact ⟨_, rfl, h⟩
      · wp_walk using wpAny_loadPart' hl, wpAny_pyIter_tuple hL
        exact ⟨_, rfl, h⟩
    · wp_walk using wpAny_loadPart' hl, wpAny_pyIter_tuple hL
      exact ⟨_, rfl, h⟩
section
variable {prog : Program} {w : World} {A : Around} {E : Value → Shared → Prop} {s : Shared}
theorem call_enumerate_tuple {l : Addr} {items : Array Value} {Q : Value → Shared → Prop} (hL : s.heap.IsTuple l items)
    (h : ∀ h', IsEnum h' (s.heap.objs.size + 1) s.heap.objs.size 0 .none → h'.IsTupleIter s.heap.objs.size l 0 → h'.objs.size = s.heap.objs.size + 2 →
      (∀ b o, s.heap.get? b = some o → h'.get? b = some o) → Q (.ref (s.heap.objs.size + 1)) { s with heap := h' }) :
    wpAny (model prog w) A (call (.type "enumerate") [.ref l]) Q E s := by
  obtain ⟨⟨c, dct, dt, sl⟩, hl, hc, n, hd⟩ := hL
  replace hc : c = .type "tuple" := hc
  replace hd : dt = .seq items n := hd
  subst hc hd
  refine callType_new F.called_enumerate (by decide) (F.typeCall_enumerate_1 _) (F.newCall_enumerate_1 _) (fun obj => F.args_object_init_2 obj _) F.entry_enumerate_new
    (meets_enumerate_newT l items n dct sl) ⟨hl, ?_⟩
  have hz : (s.heap.push { cls := .type "tuple_iterator", data := .fields #[.ref l, .int 0 0] }).objs.size = s.heap.objs.size + 1 := Heap.size_push ..
  show _ ∧ _
  rw [hz]
  have he : IsEnum ((s.heap.push { cls := .type "tuple_iterator", data := .fields #[.ref l, .int 0 0] }).push
      { cls := .type "enumerate", data := .fields #[.none, .bool false, .ref s.heap.objs.size, rawInt 0, .none, .none] }) (s.heap.objs.size + 1) s.heap.objs.size 0 .none := by
    have := Heap.get?_push_size (s.heap.push { cls := .type "tuple_iterator", data := .fields #[.ref l, .int 0 0] })
      (o := { cls := .type "enumerate", data := .fields #[.none, .bool false, .ref s.heap.objs.size, rawInt 0, .none, .none] }) rfl
    rw [hz] at this; exact this
  refine ⟨⟨_, he, rfl⟩, h _ he ⟨_, Heap.get?_push_of_some _ (Heap.get?_push_size _ rfl), rfl, rfl⟩ (by rw [Heap.size_push, hz]) fun b o x => Heap.get?_push_of_some _ (Heap.get?_push_of_some _ x)⟩
theorem enum_endT {e it l : Addr} {i : Nat} {items : Array Value} {old : Value} {Q : Option Value → Shared → Prop} (hh : A.handled = none)
    (he : IsEnum s.heap e it i old) (hit : s.heap.IsTupleIter it l i) (hl : s.heap.IsTuple l items) (hx : items[i]? = none)
    (hQ : ∀ h', Heap.ExtBut it s.heap h' → Q none { s with heap := h' }) : wpAny (model prog w) A (pyNext (.ref e)) Q E s := by
  have hT : s.TypeIs (.ref e) "enumerate" := ⟨_, he, rfl⟩
  unfold pyNext
  refine wpAny_bind (wpAny_attempt (wpAny_callSpecial?_slot (name := Str.ofString "__next__") hT F.slot_enumerate_next
    (wpAny_call_entry F.slot_enumerate_next hT F.entry_enumerate_next ?_ (F.args_enumerate_next_1 _))))
  show wpAny _ _ (field (.ref e) 2 >>= _) _ _ _
  refine wpAny_bind (wpAny_field he rfl (x := .ref it) rfl ?_)
  refine wpAny_bind (wpAny_nextOf_tuple_end hh hit hl hx fun h' x he' hx' => ?_)
  obtain ⟨o, ho, hc⟩ := hx'
  refine wpAny_bind (wpAny_isInstance (T := "StopIteration") (b := true) ⟨o, ho, hc⟩ isSubtype_stop ?_)
  exact wpAny_pure (hQ _ he')
end
/-- the tuple at a, each item in a new pair -/
def IteT (K : PySem.W.Frag) (a : Addr) : It :=
  ⟨fun i H => ∃ (xs : List V) (x : V), SqT K H a xs ∧ xs[i]? = some x, fun i H v H' => ∃ T x, v = .ref T ∧ H T = none ∧ H' = upd H T (.tup [.int (i : Nat), x]) ∧ ∀ xs, SqT K H a xs → xs[i]? = some x, fun i H => ∃ xs : List V, SqT K H a xs ∧ xs.length ≤ i⟩
theorem turn_enumT {P : Program} {w : World} {K : PySem.W.Frag} {elts : List Expr} {kk : Nat} {tpos : Pos} (a e it : Addr) (hea : a < it) :
    Turn P w K (.Tuple elts kk tpos) (IteT K a) [e, it] e (fun i h => (∃ old, IsEnum h e it ((i : Nat) : Int) old) ∧ h.IsTupleIter it a i ∧ e ≠ it ∧ e ≠ a) where
  mem := by simp
  obj := fun i h st b hb => by
    obtain ⟨⟨old, he⟩, ⟨o, ho, hc, hd⟩, _⟩ := st
    have e' : b = e ∨ b = it := by simpa using hb
    rcases e' with z | z
    · rw [z]; exact ⟨_, he, fun v q => nomatch q⟩
    · rw [z]; exact ⟨o, ho, fun v q => by rw [hd] at q; cases q⟩
  keep := fun i h h' st k => let ⟨⟨old, he⟩, hi, hne⟩ := st; ⟨⟨old, k e (by simp) _ he⟩, hi.at fun o q => k it (by simp) o q, hne⟩
  item := by
    intro X hP hw hK hc i pins s σ H E I hf st hg
    subst hP hw hK
    obtain ⟨⟨old, he⟩, hit, hne, hna⟩ := st
    obtain ⟨xs, x, hq, hx⟩ := hg
    obtain ⟨its, rv, p, hz⟩ := I.tuple hq
    obtain ⟨u, hu, ru⟩ := rv.get hx
    have hel : e < s.heap.objs.size := Heap.lt_size he
    have hil : it < s.heap.objs.size := by obtain ⟨_, q, _⟩ := hit; exact Heap.lt_size q
    have hlt : i < its.toArray.size := by
      have := (List.getElem?_eq_some_iff.mp hu).1
      simpa using this
    refine wpAny_pyNext_enum_itemD (Draws.tuple (by rw [show X.A.in1.handled = X.A.handled from rfl]; exact I.ok.hd hc) it a (Nat.ne_of_lt hea) its.toArray) he ⟨hit, p⟩ hlt hne (by simp [hne, hna]) fun x' h' tk hP ho hit' hT hsz hk => ?_
    have exu : x' = u := by
      have hP' : its.toArray[i]? = some x' := hP
      rw [List.getElem?_toArray, hu] at hP'
      cases hP'
      rfl
    subst exu
    refine ⟨_, rfl, wpAny_letOwnedTupleGo_enum (s := { s with heap := h', toks := tk + 1 }) ho fun h'' he' sb => ?_⟩
    have hT2 : h''.get? s.heap.objs.size = some { cls := .type "tuple", data := .seq #[.int i tk, x'] } := (sb.2 _ (Nat.ne_of_gt hel)).trans hT
    have new : ObjOk X.prog X.w (upd H s.heap.objs.size (.tup [.int (i : Nat), x])) h'' s.heap.objs.size (.tup [.int (i : Nat), x]) :=
      ⟨by show 2 ≤ sizeLine; decide, [.int i tk, x'], .cons ⟨_, rfl⟩ (.cons ru .nil), ⟨_, hT2, rfl, _, rfl⟩⟩
    have I1 : Inv X pins σ (upd H s.heap.objs.size (.tup [.int (i : Nat), x])) { s with heap := h'', toks := tk + 1 } :=
      I.turnedNew (ch := [e, it]) (fun b ob hb q => (sb.2 b (fun z => hb (by simp [z]))).trans (hk b ob (fun z => hb (by simp [z])) (fun z => hb (by simp [z])) q)) hf (Nat.le_refl _) new
    refine ⟨.ref s.heap.objs.size, _, I1, rfl, ⟨_, x, rfl, I.hok.fresh (Nat.le_refl _), rfl, fun ys hy => by rw [I.tuple_inj hy hq]; exact hx⟩, ⟨⟨x', ?_⟩, hit'.1.at fun o q => (sb.2 it (Ne.symm hne)).trans q, hne, hna⟩, fun b hb => ?_⟩
    · have e1 : ((i + 1 : Nat) : Int) = (i : Int) + 1 := by omega
      rw [e1]; exact he'
    · have hb' : b < s.heap.objs.size := by
        have e' : b = e ∨ b = it := by simpa using hb
        rcases e' with z | z
        · rw [z]; exact hel
        · rw [z]; exact hil
      rw [upd_ne (Nat.ne_of_lt hb')]
      exact (hf b hb).1
  done := by
    intro X hP hw hK hc i pins s σ H E I hf st hg
    subst hP hw hK
    obtain ⟨⟨old, he⟩, hit, hne, hna⟩ := st
    obtain ⟨xs, hq, hx⟩ := hg
    obtain ⟨its, rv, p, hz⟩ := I.tuple hq
    obtain ⟨f0, f1, f2, f3, f4, f5⟩ := hf it (by simp)
    have hl := rv.length
    exact enum_endT (I.ok.hd hc) he hit p (by simp; omega) fun h' eb => ⟨rfl, I.turned (t' := s.toks) (fun b o hb q => eb b o hb q) f0 f1 f3 f4 f5⟩
  self := fun A i s Q E st h => let ⟨⟨_, he⟩, _⟩ := st; wpAny_pyIter_enum he h
def iEnumA (K : PySem.W.Frag) (ta : TA) : TI := fun σ H R => ta σ H fun vs H1 => ∃ a xs, vs = [.ref a] ∧ ((SqL K H1 a xs ∧ R (Ite K a) H1) ∨ (SqT K H1 a xs ∧ R (IteT K a) H1))
theorem pi_enumA {X : Cx} {e : Expr} {ta : TA} {p pos tpos : Pos} {elts : List Expr} {kk : Nat} (hg : Gl X "enumerate") (hm : X.mg "enumerate" = none) (ha : PA X [e] ta) (hs : starEach [e] X.env = [(false, eval e X.env)]) :
    PI X (.Tuple elts kk tpos) (.Call (.Name "enumerate" p) [e] [] pos) (iEnumA X.K ta) := by
  refine ⟨fun pins s σ H R I h => ?_⟩
  refine Call_ (ld_blt I hg hm boot_enumerate (PyProof.Rows.callWith_type1 (thn (ha.run pos pins s σ H _ I h) fun us s1 ⟨vs, H1, I1, r1, q1⟩ => ?_) hs rfl))
  obtain ⟨a, xs, ex, q1⟩ := q1
  subst ex
  cases r1 with
  | cons r rr =>
    cases rr
    cases r
    have fresh2 : ∀ b, b ∈ [s1.heap.objs.size + 1, s1.heap.objs.size] → FpOk X pins H1 b := fun b hb => by
      have e' : b = s1.heap.objs.size + 1 ∨ b = s1.heap.objs.size := by simpa using hb
      have hle : s1.heap.objs.size ≤ b := by
        rcases e' with z | z
        · rw [z]; exact Nat.le_add_right _ _
        · rw [z]; exact Nat.le_refl _
      exact I1.fpOk hle (I1.hok.fresh hle)
    rcases q1 with ⟨hq, q⟩ | ⟨hq, q⟩
    · obtain ⟨its, rv, p', hz⟩ := I1.list hq
      refine call_enumerate_list p'.isList fun h' he hit hsz hk => wpAny_pyIter_enum he ?_
      have I2 : Inv X pins σ H1 { s1 with heap := h' } := I1.kept (t' := s1.toks) hk
      exact ⟨s1.heap.objs.size + 1, [s1.heap.objs.size + 1, s1.heap.objs.size], _, _, H1, rfl, I2, turn_enum a (s1.heap.objs.size + 1) s1.heap.objs.size, ⟨⟨.none, he⟩, hit, Nat.succ_ne_self _⟩, fresh2, q⟩
    · obtain ⟨its, rv, p', hz⟩ := I1.tuple hq
      have hlt : a < s1.heap.objs.size := by
        obtain ⟨_, q, _⟩ := id p'
        exact Heap.lt_size q
      refine call_enumerate_tuple p' fun h' he hit hsz hk => wpAny_pyIter_enum he ?_
      have I2 : Inv X pins σ H1 { s1 with heap := h' } := I1.kept (t' := s1.toks) hk
      exact ⟨s1.heap.objs.size + 1, [s1.heap.objs.size + 1, s1.heap.objs.size], _, _, H1, rfl, I2, turn_enumT a (s1.heap.objs.size + 1) s1.heap.objs.size hlt, ⟨⟨.none, he⟩, hit, Nat.succ_ne_self _, Nat.ne_of_gt (Nat.lt_succ_of_lt hlt)⟩, fresh2, q⟩
section
variable {K : PySem.W.Frag} {φ φ1 φ2 : Ph} {H H1 H2 : Hp}
theorem wk_enumT {a : Addr} {l : List D} (h : ∀ φ H, Ex1 φ1 H1 φ H → ∃ xs, SqT K H a xs ∧ Reps K φ H l xs) : WkIs K φ1 H1 ⟨enumL 0 l, none⟩ (IteT K a) := by
  intro φ H M e m ok i
  obtain ⟨xs, sq, r⟩ := h φ H e
  refine ⟨fun hi => ⟨xs, sq, ?_⟩, fun d hd => ?_⟩
  · rw [← r.length, ← enumL_len l 0]
    exact hi
  · obtain ⟨x, hx, rfl⟩ := enumL_at hd
    obtain ⟨v, h1, h2⟩ := r.get hx
    refine ⟨⟨xs, v, sq, h1⟩, fun u H' y => ?_⟩
    obtain ⟨T, w, rfl, hT, rfl, y⟩ := y
    have ex : xs[i]? = some w := y xs sq
    rw [h1] at ex
    cases ex
    have e0 : ((0 : Int) + (i : Nat)) = (i : Nat) := by omega
    rw [e0]
    exact pair_new m hT (.int _) h2
end
section
variable {X : Cx} {W : WX} {cl : Cl} {a b c tg : Expr} {ma mb mc : E} {pos : Pos}
theorem mi_enum {p tpos : Pos} {elts : List Expr} {kk : Nat} (bn : BN X "enumerate") (ha : PE X a (tE X.K W (evE cl ma))) (he : starEach [a] X.env = (false, eval a X.env) :: starEach [] X.env) :
    PI X (.Tuple elts kk tpos) (.Call (.Name "enumerate" p) [a] [] pos) (tI X.K W (evI cl (.enum ma))) := by
  refine imp_PI' (pi_enumA bn.gl bn.none (pa_cons ha pa_nil he) (by rw [he]; rfl)) fun σ H Rr h => ?_
  obtain ⟨L, φ, M, lr, mh, p⟩ := h
  refine tE_use lr mh (PR.bind (show PR X.K W σ φ H ((evE cl ma L M).bind fun x M1 => match x with | .tup l => .ok (Wk.mk (enumL 0 l) none) M1 | .lst l => .ok (Wk.mk (enumL 0 l) none) M1 | _ => .bad) _ from p)) fun d M1 φ1 H1 v e1 m1 g1 r1 => ?_
  split at g1
  · obtain ⟨q, xs, rfl, sq, _⟩ := r1.sqT
    exact ⟨q, xs, rfl, .inr ⟨sq, g1.here m1 _ (wk_enumT fun φ H e => tup_later r1 e)⟩⟩
  · cases id r1 with
    | lst h1 h2 h3 => exact ⟨_, _, rfl, .inl ⟨SqL.of h1, g1.here m1 _ (wk_enumL fun φ H e => lst_later r1 e)⟩⟩
  · exact False.elim g1
end
end MP
/-! MiniPy 10: targets, list comprehensions. -/
namespace MP
open PySem PySem.Spec PyProof.Rows L2
variable [TabC]

/-! ### targets -/
def tgIx : Tg → List Nat
  | .name i => [i]
  | .tup is => is
def setAll (σ : L2.St) : List Nat → List V → L2.St
  | i :: is, v :: vs => setAll (σ.set i (some v)) is vs
  | _, _ => σ
def gT (K : PySem.W.Frag) (tg : Tg) : TG := fun v σ H Q => ∃ L φ M d L1, LR K φ H L σ ∧ MH K φ H M ∧ Rep K φ H d v ∧ asg tg d L = some L1 ∧ ∀ σ1, LR K φ H L1 σ1 → (∃ vals, σ1 = setAll σ (tgIx tg) vals) → Q σ1 H
def gsT (K : PySem.W.Frag) (is : List Nat) : TGs := fun vs σ H Q => ∃ L φ M ds L1, LR K φ H L σ ∧ MH K φ H M ∧ Reps K φ H ds vs ∧ asgs is ds L = some L1 ∧ ∀ σ1, LR K φ H L1 σ1 → (∃ vals, σ1 = setAll σ is vals) → Q σ1 H
theorem imp_PG {X : Cx} {e : Expr} {t t' : TG} (h : PG X e t) (i : ∀ v σ H Q, t' v σ H Q → t v σ H Q) : PG X e t' := ⟨fun pins s σ H v u Q I r q => h.run pins s σ H v u Q I r (i v σ H Q q)⟩
theorem imp_PGs {X : Cx} {e : List Expr} {t t' : TGs} (h : PGs X e t) (i : ∀ v σ H Q, t' v σ H Q → t v σ H Q) : PGs X e t' := ⟨fun pins s σ H v u Q I r q => h.run pins s σ H v u Q I r (i v σ H Q q)⟩
section
variable {X : Cx} {pos : Pos}
theorem mg_name {i : Nat} {x : Str} (hN : X.N.Nodup) (hi : X.N[i]? = some x) (hx : Loc X.env.scope x) (hf : X.fn x = true ∨ X.env.scope.names.lookup x = some .local) : PG X (.Name x pos) (gT X.K (.name i)) := by
  refine imp_PG (pg_name hN hi hx hf) fun v σ H Q h => ?_
  obtain ⟨L, φ, M, d, L1, lr, mh, r, ha, q⟩ := h
  cases ha
  exact q _ (lr.set i r) ⟨[v], rfl⟩
theorem mgs_nil : PGs X [] (gsT X.K []) := by
  refine imp_PGs pgs_nil fun vs σ H Q h => ?_
  obtain ⟨L, φ, M, ds, L1, lr, mh, r, ha, q⟩ := h
  cases r with
  | nil =>
    cases ha
    exact ⟨rfl, q _ lr ⟨[], rfl⟩⟩
  | cons _ _ => cases ha
theorem mgs_cons {i : Nat} {x : Str} {es : List Expr} {is : List Nat} (hN : X.N.Nodup) (hi : X.N[i]? = some x) (hx : Loc X.env.scope x) (hf : X.fn x = true ∨ X.env.scope.names.lookup x = some .local) (h2 : PGs X es (gsT X.K is))
    (hs : (assignEach (.Name x pos :: es) X.env).map (·.2) = assign (.Name x pos) X.env :: (assignEach es X.env).map (·.2)) : PGs X (.Name x pos :: es) (gsT X.K (i :: is)) := by
  refine imp_PGs (pgs_cons (pg_name hN hi hx hf) h2 hs) fun vs σ H Q h => ?_
  obtain ⟨L, φ, M, ds, L1, lr, mh, r, ha, q⟩ := h
  cases r with
  | nil => cases ha
  | @cons d v ds vs r1 r2 => exact ⟨v, vs, rfl, L.set i (some d), φ, M, ds, L1, lr.set i r1, mh, r2, ha, fun σ1 l ⟨vals, e⟩ => q σ1 l ⟨v :: vals, e⟩⟩
theorem asgs_len : ∀ {is : List Nat} {ds : List D} {L L1 : Lo}, asgs is ds L = some L1 → is.length = ds.length
  | [], [], _, _, _ => rfl
  | [], _ :: _, _, _, h => by cases h
  | _ :: _, [], _, _, h => by cases h
  | i :: is, d :: ds, L, L1, h => by
    have := asgs_len (is := is) (ds := ds) (L := L.set i (some d)) (L1 := L1) h
    simp [this]
theorem mg_tup {es : List Expr} {k : Nat} {is : List Nat} (hc : X.calm = true) (h : PGs X es (gsT X.K is)) (hn : (assignEach es X.env).length = is.length) (hst : (assignEach es X.env).findIdx? (·.1) = none) : PG X (.Tuple es k pos) (gT X.K (.tup is)) := by
  refine imp_PG (pg_tup (n := is.length) hc h hn hst) fun v σ H Q h => ?_
  obtain ⟨L, φ, M, d, L1, lr, mh, r, ha, q⟩ := h
  cases d with
  | tup l =>
    obtain ⟨a, xs, rfl, sq, r'⟩ := r.sqT
    exact ⟨a, xs, rfl, sq, by rw [← r'.length, asgs_len (show asgs is l L = some L1 from ha)], L, φ, M, l, L1, lr, mh, r', ha, q⟩
  | _ => cases ha
end

/-! ### forgetting -/
theorem wipe_get (σ : L2.St) : ∀ (vs : List Nat) (i : Nat), (L2.wipe σ vs)[i]? = if i ∈ vs then (if i < σ.length then some none else none) else σ[i]?
  | [], i => by simp [L2.wipe]
  | v :: vs, i => by
    show ((L2.wipe σ vs).set v none)[i]? = _
    rw [List.getElem?_set, wipe_length, wipe_get σ vs i]
    by_cases h : v = i
    · subst h
      by_cases hl : v < σ.length
      · simp [hl]
      · simp [hl]
    · by_cases hm : i ∈ vs
      · simp [h, hm]
      · have : ¬ i = v := fun e => h e.symm
        simp [h, hm, this]
theorem setAll_len : ∀ (is : List Nat) (vals : List V) (σ : L2.St), (setAll σ is vals).length = σ.length
  | [], _, _ => by simp [setAll]
  | _ :: _, [], _ => rfl
  | i :: is, v :: vs, σ => by
    show (setAll (σ.set i (some v)) is vs).length = _
    rw [setAll_len is vs]
    simp
theorem setAll_get : ∀ (is : List Nat) (vals : List V) (σ : L2.St) (j : Nat), j ∉ is → (setAll σ is vals)[j]? = σ[j]?
  | [], _, _, _, _ => by simp [setAll]
  | _ :: _, [], _, _, _ => rfl
  | i :: is, v :: vs, σ, j, h => by
    show (setAll (σ.set i (some v)) is vs)[j]? = _
    simp only [List.mem_cons, not_or] at h
    rw [setAll_get is vs _ j h.2, List.getElem?_set_ne (fun e => h.1 e.symm)]
theorem wipe_setAll {σ : L2.St} {vs is : List Nat} {vals : List V} (h : ∀ i ∈ is, i ∈ vs) : L2.wipe (setAll (L2.wipe σ vs) is vals) vs = L2.wipe σ vs := by
  apply List.ext_getElem?
  intro i
  rw [wipe_get, wipe_get, setAll_len, wipe_length]
  by_cases hm : i ∈ vs
  · simp [hm]
  · rw [if_neg hm, if_neg hm, setAll_get _ _ _ _ (fun z => hm (h i z)), wipe_get, if_neg hm]

/-! ### the list in the making -/
theorem nx_lst {xs : List V} : NX (.lst xs) := ⟨fun _ z => (by cases z), fun _ z => (by cases z)⟩
structure Bx (φ1 : Ph) (H1 : Hp) (δ : Addr) (φ : Ph) (H : Hp) : Prop where
  pre : ∃ t, φ1.f ++ t = φ.f
  bar : φ.b = δ :: φ1.b
  keep : ∀ b o, H1 b = some o → NT o → b ∉ φ1.f → H b = some o ∧ b ∉ φ.f
  out : δ ∉ φ.f
section
variable {K : PySem.W.Frag} {φ1 φ φ' : Ph} {H1 H H' : Hp} {δ : Addr} {M : List D}
theorem Bx.start {M : List MP.D} (m : MH K φ1 H1 M) (hD : H1 δ = none) {o : HO} : Bx φ1 H1 δ { φ1 with b := δ :: φ1.b } (upd H1 δ o) :=
  ⟨⟨[], by simp⟩, rfl, fun b u h _ n => ⟨by rw [upd_ne (ne_of_none h hD)]; exact h, n⟩, (m.notin hD).1⟩
theorem Bx.weak (x : Bx φ1 H1 δ φ H) (hD : H1 δ = none) : Ex1 φ1 H1 φ H :=
  ⟨x.pre, fun b o h nt n => ⟨(x.keep b o h nt n.1).1, (x.keep b o h nt n.1).2, by
    rw [x.bar]
    intro hm
    rcases List.mem_cons.mp hm with z | z
    · rw [z, hD] at h
      cases h
    · exact n.2 z⟩⟩
theorem Bx.next (x : Bx φ1 H1 δ φ H) (e : Ext φ H φ' H') {o : HO} (hD : H δ = some o) (hx : NT o) : Bx φ1 H1 δ φ' H' := by
  obtain ⟨t, e1⟩ := x.pre
  obtain ⟨t', e2⟩ := e.pre
  exact ⟨⟨t ++ t', by rw [← e2, ← e1, List.append_assoc]⟩, e.bar.trans x.bar, fun b u h nt n => e.keep b u (x.keep b u h nt n).1 nt (x.keep b u h nt n).2, (e.keep δ o hD hx x.out).2⟩
theorem Bx.put (x : Bx φ1 H1 δ φ H) (hD : H1 δ = none) (o : HO) : Bx φ1 H1 δ φ (upd H δ o) :=
  ⟨x.pre, x.bar, fun b u h nt n => ⟨by rw [upd_ne (ne_of_none h hD)]; exact (x.keep b u h nt n).1, (x.keep b u h nt n).2⟩, x.out⟩
theorem Bx.put1 (x : Bx φ1 H1 δ φ H) (o : HO) : Ex1 φ H φ (upd H δ o) :=
  ⟨⟨[], by simp⟩, fun b u h _ n => ⟨by
    rw [upd_ne (fun z => n.2 (by rw [x.bar, z]; exact List.mem_cons_self))]
    exact h, n⟩⟩
theorem Bx.putM {M : List MP.D} (x : Bx φ1 H1 δ φ H) (m : MH K φ H M) (o : HO) (no : NX o) : MH K φ (upd H δ o) M := by
  refine ⟨m.nd, m.len, fun b hb => ⟨(m.bar b hb).1, ?_⟩, ?_, fun n a d h1 h2 => ?_⟩
  · by_cases hbD : b = δ
    · subst hbD
      exact ⟨o, upd_same, no⟩
    · obtain ⟨u, hu, hx⟩ := (m.bar b hb).2
      exact ⟨u, by rw [upd_ne hbD]; exact hu, hx⟩
  · obtain ⟨_, u, hu, hx⟩ := m.bar δ (by rw [x.bar]; exact List.mem_cons_self)
    exact tabs_put m.tab hu hx fun b hb => upd_ne hb
  · refine (m.at_ n a d h1 h2).ex1 (x.put1 o) (upd_ne fun z => x.out ?_)
    rw [← z]
    exact List.mem_of_getElem? h1
/-- the heap without the list -/
def dropA (H : Hp) (δ : Addr) : Hp := fun b => if b = δ then none else H b
theorem dropA_upd {o : HO} (h : H δ = some o) : upd (dropA H δ) δ o = H := by
  funext b
  by_cases hb : b = δ
  · subst hb
    rw [upd_same, h]
  · rw [upd_ne hb]
    exact if_neg hb
theorem Bx.fin (x : Bx φ1 H1 δ φ H) (hD : H1 δ = none) : Ext φ1 H1 { φ with b := φ1.b } (dropA H δ) :=
  ⟨x.pre, rfl, fun b o h nt n => ⟨by
    show (if b = δ then none else H b) = _
    rw [if_neg (ne_of_none h hD)]
    exact (x.keep b o h nt n).1, (x.keep b o h nt n).2⟩⟩
theorem Bx.fin1 (x : Bx φ1 H1 δ φ H) : Ex1 φ H { φ with b := φ1.b } (dropA H δ) :=
  ⟨⟨[], by simp⟩, fun b o h _ n => ⟨by
    show (if b = δ then none else H b) = _
    rw [if_neg (fun z => n.2 (by rw [x.bar, z]; exact List.mem_cons_self))]
    exact h, n.1, fun hb => n.2 (by rw [x.bar]; exact List.mem_cons_of_mem _ hb)⟩⟩
theorem Bx.finM {M M1 : List MP.D} (x : Bx φ1 H1 δ φ H) (m1 : MH K φ1 H1 M1) (hD : H1 δ = none) (m : MH K φ H M) : MH K { φ with b := φ1.b } (dropA H δ) M := by
  refine ⟨m.nd, m.len, fun b hb => ?_, ?_, fun n a d h1 h2 => ?_⟩
  · obtain ⟨n1, u, hu, hx⟩ := m1.bar b hb
    have hbD : b ≠ δ := ne_of_none hu hD
    refine ⟨(x.keep b u hu hx.1 n1).2, u, ?_, hx⟩
    show (if b = δ then none else H b) = _
    rw [if_neg hbD]
    exact (x.keep b u hu hx.1 n1).1
  · obtain ⟨_, u, hu, hx⟩ := m.bar δ (by rw [x.bar]; exact List.mem_cons_self)
    exact tabs_put m.tab hu hx fun b hb => if_neg hb
  · refine (m.at_ n a d h1 h2).ex1 x.fin1 ?_
    show (if a = δ then none else H a) = _
    rw [if_neg fun z => x.out (by rw [← z]; exact List.mem_of_getElem? h1)]
end
theorem compL_nil {w : Wk} {tg : Tg} {L : Lo} {cnd elt : Lo → List D → R D} {M M2 : List D} {zs : List D} (h : compL w tg L cnd elt [] M = .ok zs M2) : w.ok M = true ∧ zs = [] ∧ M2 = M := by
  unfold compL at h
  split at h
  · cases h
    exact ⟨by assumption, rfl, rfl⟩
  · cases h
theorem compL_cons {w : Wk} {tg : Tg} {L : Lo} {cnd elt : Lo → List D → R D} {x : D} {r : List D} {M M2 : List D} {zs : List D} (h : compL w tg L cnd elt (x :: r) M = .ok zs M2) :
    w.ok M = true ∧ ∃ L1 c Mc k, asg tg x L = some L1 ∧ cnd L1 M = .ok c Mc ∧ truth Mc c = some k ∧ if k = true then ∃ y My zs', elt L1 Mc = .ok y My ∧ compL w tg L cnd elt r My = .ok zs' M2 ∧ zs = y :: zs' else compL w tg L cnd elt r Mc = .ok zs M2 := by
  unfold compL at h
  split at h
  · rename_i hok
    refine ⟨hok, ?_⟩
    split at h
    · cases h
    · rename_i L1 hL1
      obtain ⟨c, Mc, h1, h⟩ := bind_inv h
      obtain ⟨k, Mk, h2, h⟩ := bind_inv h
      obtain ⟨h2, rfl⟩ := ofO_inv h2
      refine ⟨L1, c, _, k, hL1, h1, h2, ?_⟩
      cases k with
      | true =>
        rw [if_pos rfl] at h ⊢
        obtain ⟨y, My, h3, h⟩ := bind_inv h
        obtain ⟨zs', Mz, h4, h⟩ := bind_inv h
        cases h
        exact ⟨y, My, zs', h3, h4, rfl⟩
      | false =>
        rw [if_neg Bool.false_ne_true] at h ⊢
        exact h
  · cases h
abbrev W0 : WX := fun _ _ _ _ => False
/-- where a comprehension stands before its i-th turn -/
def CS (K : PySem.W.Frag) (φ1 : Ph) (H1 : Hp) (δ : Addr) (w : Wk) (run : List MP.D → List MP.D → R (List MP.D)) (vs M2 : List MP.D) (i : Nat) (H : Hp) : Prop :=
  ∃ acc ys zs φ2 Mi, Bx φ1 H1 δ φ2 H ∧ MH K φ2 H Mi ∧ H δ = some (.lst acc) ∧ Reps K φ2 H ys acc ∧ acc.length ≤ i ∧ run (w.items.drop i) Mi = .ok zs M2 ∧ ys ++ zs = vs
theorem comp_run {K : PySem.W.Frag} {W : WX} {cl : Cl} {own : List Nat} {melt : E} {tg : Tg} {mi : I} {mcs : Es} {σ : L2.St} {H : Hp} {Q : VK} {tt : TT} (htt : ∀ σ H Q, tT K W0 (evC cl mcs) σ H Q → tt σ H Q) (hix : ∀ i ∈ tgIx tg, i ∈ own)
    (h : tN K W (evN cl (.comp own melt tg mi mcs)) σ H Q) : tLc (tI K W (evI cl mi)) (gT K tg) tt (tE K W0 (evE cl melt)) own σ H Q := by
  obtain ⟨L, φ, M, lr, mh, p⟩ := h
  refine ⟨L, φ, M, lr, mh, (PR.bind (show PR K W σ φ H ((evI cl mi L M).bind fun w M1 =>
      if w.items.length ≤ lim then ((compL w tg (wipe L own) (evC cl mcs) (evE cl melt) w.items M1).nx).bind fun vs M2 => .ok (D.lst vs) M2 else .bad) _ from p)).mono fun w M1 φ1 H1 e1 m1 g1 => ?_⟩
  intro J hJ δ hD
  split at g1
  · rename_i hlim
    cases hrun : compL w tg (wipe L own) (evC cl mcs) (evE cl melt) w.items M1 with
    | bad => rw [hrun] at g1; exact False.elim g1
    | exc c e M' => rw [hrun] at g1; exact False.elim g1
    | ok vs M2 =>
      rw [hrun] at g1
      replace g1 := show PR K W σ φ1 H1 (R.ok (D.lst vs) M2) (fun d M' φ' H' => ∀ (o : HO) (p : Addr), ObjIs K φ' H' d o → H' p = none → Q (V.ref p) (upd H' p o)) from g1
      generalize hrn : (fun l M => compL w tg (wipe L own) (evC cl mcs) (evE cl melt) l M) = run at *
      have hr0 : run w.items M1 = .ok vs M2 := by rw [← hrn]; exact hrun
      refine ⟨fun i m H => m = w.items.length - i ∧ i ≤ w.items.length ∧ CS K φ1 H1 δ w run vs M2 i H, ⟨w.items.length, by simp, Nat.zero_le _, ?_⟩, ?_⟩
      · exact ⟨[], [], vs, { φ1 with b := δ :: φ1.b }, M1, Bx.start m1 hD, by
          have x := Bx.start (φ1 := φ1) (H1 := H1) (o := .lst []) m1 hD
          refine ⟨m1.nd, m1.len, fun b hb => ?_, m1.tab.ext fun b u hu => by rw [upd_ne (ne_of_none hu hD)]; exact hu, fun n a d h1 h2 => ?_⟩
          · rcases List.mem_cons.mp hb with z | z
            · rw [z]
              exact ⟨(m1.notin hD).1, _, upd_same, nx_lst⟩
            · obtain ⟨n, u, hu, hx⟩ := m1.bar b z
              exact ⟨n, u, by rw [upd_ne (ne_of_none hu hD)]; exact hu, hx⟩
          · refine (m1.at_ n a d h1 h2).ex1 (x.weak hD) (upd_ne fun z => (m1.notin hD).1 ?_)
            rw [← z]
            exact List.mem_of_getElem? h1, upd_same, .nil, Nat.zero_le _, hr0, rfl⟩
      · rintro i m H2 ⟨rfl, hi, acc, ys, zs, φ2, Mi, bx, m2, hDa, ra, hal, hr, hys⟩
        have hw := hJ φ2 H2 Mi (bx.weak hD) m2
        by_cases hlt : i < w.items.length
        · have hdrop : w.items.drop i = w.items[i] :: w.items.drop (i + 1) := List.drop_eq_getElem_cons hlt
          rw [hdrop, ← hrn] at hr
          obtain ⟨hok, L1, c, Mc, k, ha, hc, hk, hrest⟩ := compL_cons hr
          obtain ⟨_, hgo⟩ := hw hok i
          obtain ⟨go, hy⟩ := hgo w.items[i] (List.getElem?_eq_getElem hlt)
          refine .inr ⟨go, fun H' => CS K φ1 H1 δ w run vs M2 (i + 1) H', fun H' c => ⟨w.items.length - (i + 1), by omega, rfl, hlt, c⟩, fun x H' y => ?_⟩
          obtain ⟨e3, m3, r3⟩ := hy x H' y
          have lr3 : LR K φ2 H' (wipe L own) (L2.wipe σ own) := ((lr.ext e1).ex1 (bx.weak hD)).ext e3 |>.wipe own
          refine ⟨wipe L own, φ2, Mi, w.items[i], L1, lr3, m3, r3, ha, fun σ1 lr4 hv => ?_⟩
          obtain ⟨vals, hv⟩ := hv
          refine ⟨by rw [hv]; exact wipe_setAll hix, htt _ _ _ ⟨L1, φ2, Mi, lr4, m3, ?_⟩⟩
          rw [hc]
          intro φ4 H4 e4 m4
          refine ⟨k, hk, ?_⟩
          have e34 := e3.trans e4
          cases k with
          | false =>
            rw [if_neg Bool.false_ne_true] at hrest
            show CS K φ1 H1 δ w run vs M2 (i + 1) H4
            refine ⟨acc, ys, zs, φ4, Mc, bx.next e34 hDa nx_lst.1, m4, (e34.keep δ _ hDa nx_lst.1 bx.out).1, Reps.ext e34 _ _ ra, Nat.le_succ_of_le hal, ?_, hys⟩
            rw [← hrn]
            exact hrest
          | true =>
            rw [if_pos rfl] at hrest
            show tE K W0 (evE cl melt) σ1 H4 fun y H5 => ∃ acc, H5 δ = some (.lst acc) ∧ acc.length < sizeLine ∧ CS K φ1 H1 δ w run vs M2 (i + 1) (upd H5 δ (.lst (acc ++ [y])))
            obtain ⟨y', My, zs', he, hr', rfl⟩ := hrest
            refine ⟨L1, φ4, Mc, lr4.ext e4, m4, ?_⟩
            rw [he]
            intro φ5 H5 e5 m5 v rv
            have e35 := e34.trans e5
            have hD5 := (e35.keep δ _ hDa nx_lst.1 bx.out).1
            have bx5 := bx.next e35 hDa nx_lst.1
            refine ⟨acc, hD5, Nat.lt_of_le_of_lt hal (Nat.lt_of_lt_of_le hlt hlim), acc ++ [v], ys ++ [y'], zs', φ5, My, bx5.put hD _, bx5.putM m5 _ nx_lst, upd_same, ?_, by simpa using hal, ?_, by rw [← hys]; simp⟩
            · exact Reps.ex1 (bx5.put1 _) _ _ ((Reps.ext e35 _ _ ra).append (.cons rv .nil))
            · rw [← hrn]
              exact hr'
        · have ei : i = w.items.length := by omega
          subst ei
          rw [List.drop_length, ← hrn] at hr
          obtain ⟨hok, rfl, rfl⟩ := compL_nil hr
          rw [List.append_nil] at hys
          subst hys
          refine .inl ⟨(hw hok _).1 (Nat.le_refl _), ?_⟩
          have q := g1 { φ2 with b := φ1.b } (dropA H2 δ) (bx.fin hD) (bx.finM m1 hD m2) (.lst acc) δ (.lst (Reps.ex1 bx.fin1 _ _ ra)) (if_pos rfl)
          rw [dropA_upd hDa] at q
          exact q
  · exact False.elim g1
end MP
/-! MiniPy 10b: comprehensions with two `for`. -/
namespace MP
open PySem PySem.Spec PyProof.Rows L2
variable [TabC]
theorem compL2_nil {w : Wk} {tg : Tg} {L : Lo} {cnd : Lo → List D → R D} {inn : Lo → List D → R (List D)} {M M2 : List D} {zs : List D} (h : compL2 w tg L cnd inn [] M = .ok zs M2) : w.ok M = true ∧ zs = [] ∧ M2 = M := by
  unfold compL2 at h
  split at h
  · cases h
    exact ⟨by assumption, rfl, rfl⟩
  · cases h
theorem compL2_cons {w : Wk} {tg : Tg} {L : Lo} {cnd : Lo → List D → R D} {inn : Lo → List D → R (List D)} {x : D} {r : List D} {M M2 : List D} {zs : List D} (h : compL2 w tg L cnd inn (x :: r) M = .ok zs M2) :
    w.ok M = true ∧ ∃ L1 c Mc k, asg tg x L = some L1 ∧ cnd L1 M = .ok c Mc ∧ truth Mc c = some k ∧ if k = true then ∃ ys My zs', inn L1 Mc = .ok ys My ∧ compL2 w tg L cnd inn r My = .ok zs' M2 ∧ zs = ys ++ zs' else compL2 w tg L cnd inn r Mc = .ok zs M2 := by
  unfold compL2 at h
  split at h
  · rename_i hok
    refine ⟨hok, ?_⟩
    split at h
    · cases h
    · rename_i L1 hL1
      obtain ⟨c, Mc, h1, h⟩ := bind_inv h
      obtain ⟨k, Mk, h2, h⟩ := bind_inv h
      obtain ⟨h2, rfl⟩ := ofO_inv h2
      refine ⟨L1, c, _, k, hL1, h1, h2, ?_⟩
      cases k with
      | true =>
        rw [if_pos rfl] at h ⊢
        obtain ⟨y, My, h3, h⟩ := bind_inv h
        obtain ⟨zs', Mz, h4, h⟩ := bind_inv h
        cases h
        exact ⟨y, My, zs', h3, h4, rfl⟩
      | false =>
        rw [if_neg Bool.false_ne_true] at h ⊢
        exact h
  · cases h
/-- where the outer walk stands before its i-th turn -/
def CS2 (K : PySem.W.Frag) (φ1 : Ph) (H1 : Hp) (δ : Addr) (w : Wk) (run : List MP.D → List MP.D → R (List MP.D)) (vs M2 : List MP.D) (i : Nat) (H : Hp) : Prop :=
  ∃ acc ys zs φ2 Mi, Bx φ1 H1 δ φ2 H ∧ MH K φ2 H Mi ∧ H δ = some (.lst acc) ∧ Reps K φ2 H ys acc ∧ run (w.items.drop i) Mi = .ok zs M2 ∧ ys ++ zs = vs
/-- where the inner walk stands before its j-th turn: the list shall be ps at its end, in the memory My -/
def CI (K : PySem.W.Frag) (φ1 : Ph) (H1 : Hp) (φ5 : Ph) (H4 : Hp) (δ : Addr) (w : Wk) (run : List MP.D → List MP.D → R (List MP.D)) (ps My : List MP.D) (j : Nat) (H : Hp) : Prop :=
  ∃ acc ys zs φ2 Mi, Bx φ1 H1 δ φ2 H ∧ Ex1 φ5 H4 φ2 H ∧ MH K φ2 H Mi ∧ H δ = some (.lst acc) ∧ Reps K φ2 H ys acc ∧ run (w.items.drop j) Mi = .ok zs My ∧ ys ++ zs = ps
/-- the inner walk -/
theorem comp_inner {K : PySem.W.Frag} {cl : Cl} {own1 : List Nat} {melt : E} {tg1 : Tg} {mi1 : I} {mcs1 : Es} {σ : L2.St} {L : Lo} {φ1 φ : Ph} {H1 H : Hp} {δ : Addr} {M My : List MP.D} {Nx : Hp → Prop} {acc : List V} {yb ys1 : List MP.D} (hix : ∀ i ∈ tgIx tg1, i ∈ own1) (hD : H1 δ = none)
    (bx : Bx φ1 H1 δ φ H) (m : MH K φ H M) (hDa : H δ = some (.lst acc)) (ra : Reps K φ H yb acc) (lr : LR K φ H L σ) (hlim : (yb ++ ys1).length ≤ lim)
    (h : ((evI cl mi1 L M).bind fun w1 M1 => compL w1 tg1 (wipe L own1) (evC cl mcs1) (evE cl melt) w1.items M1) = .ok ys1 My)
    (hN : ∀ φ' H' acc', Bx φ1 H1 δ φ' H' → MH K φ' H' My → H' δ = some (.lst acc') → Reps K φ' H' (yb ++ ys1) acc' → Nx H') :
    tI K W0 (evI cl mi1) σ H fun J1 H4 => ∃ W1 : Nat → Nat → Hp → Prop, (∃ m, W1 0 m H4) ∧ ∀ j k H, W1 j k H →
      (J1.stop j H ∧ Nx H) ∨ (J1.go j H ∧ ∃ Nx1 : Hp → Prop, (∀ H', Nx1 H' → ∃ k', k' < k ∧ W1 (j + 1) k' H') ∧ ∀ x H', J1.yld j H x H' → gT K tg1 x (L2.wipe σ own1) H' fun σ3 H5 => L2.wipe σ3 own1 = L2.wipe σ own1 ∧ tT K W0 (evC cl mcs1) σ3 H5 fun b H6 =>
        if b = true then tE K W0 (evE cl melt) σ3 H6 fun y H7 => ∃ acc, H7 δ = some (.lst acc) ∧ acc.length < sizeLine ∧ Nx1 (upd H7 δ (.lst (acc ++ [y]))) else Nx1 H6) := by
  obtain ⟨w1, M1, hI, hrun⟩ := bind_inv h
  refine ⟨L, φ, M, lr, m, ?_⟩
  rw [hI]
  intro φ5 H4 e5 m5 J hJ
  have bx5 := bx.next e5 hDa nx_lst.1
  have hD5 := (e5.keep δ _ hDa nx_lst.1 bx.out).1
  have ra5 := Reps.ext e5 _ _ ra
  have lr5 := lr.ext e5
  generalize hrn : (fun l M => compL w1 tg1 (wipe L own1) (evC cl mcs1) (evE cl melt) l M) = run at *
  have hr0 : run w1.items M1 = .ok ys1 My := by rw [← hrn]; exact hrun
  refine ⟨fun j k H => k = w1.items.length - j ∧ j ≤ w1.items.length ∧ CI K φ1 H1 φ5 H4 δ w1 run (yb ++ ys1) My j H, ⟨w1.items.length, by simp, Nat.zero_le _, acc, yb, ys1, φ5, M1, bx5, Ex1.refl, m5, hD5, ra5, hr0, rfl⟩, ?_⟩
  rintro j k H2 ⟨rfl, hi, acc2, ys, zs, φ2, Mi, bx2, x2, m2, hDa2, ra2, hr, hys⟩
  have hw := hJ φ2 H2 Mi x2 m2
  by_cases hlt : j < w1.items.length
  · have hdrop : w1.items.drop j = w1.items[j] :: w1.items.drop (j + 1) := List.drop_eq_getElem_cons hlt
    rw [hdrop, ← hrn] at hr
    obtain ⟨hok, L1, c, Mc, k, ha, hc, hk, hrest⟩ := compL_cons hr
    obtain ⟨_, hgo⟩ := hw hok j
    obtain ⟨go, hy⟩ := hgo w1.items[j] (List.getElem?_eq_getElem hlt)
    refine .inr ⟨go, fun H' => CI K φ1 H1 φ5 H4 δ w1 run (yb ++ ys1) My (j + 1) H', fun H' c => ⟨w1.items.length - (j + 1), by omega, rfl, hlt, c⟩, fun x H' y => ?_⟩
    obtain ⟨e3, m3, r3⟩ := hy x H' y
    have lr3 : LR K φ2 H' (wipe L own1) (L2.wipe σ own1) := (lr5.ex1 x2).ext e3 |>.wipe own1
    refine ⟨wipe L own1, φ2, Mi, w1.items[j], L1, lr3, m3, r3, ha, fun σ1 lr4 hv => ?_⟩
    obtain ⟨vals, hv⟩ := hv
    refine ⟨by rw [hv]; exact wipe_setAll hix, ⟨L1, φ2, Mi, lr4, m3, ?_⟩⟩
    rw [hc]
    intro φ4 H4' e4 m4
    refine ⟨k, hk, ?_⟩
    have e34 := e3.trans e4
    cases k with
    | false =>
      rw [if_neg Bool.false_ne_true] at hrest
      show CI K φ1 H1 φ5 H4 δ w1 run (yb ++ ys1) My (j + 1) H4'
      refine ⟨acc2, ys, zs, φ4, Mc, bx2.next e34 hDa2 nx_lst.1, x2.trans e34.weak, m4, (e34.keep δ _ hDa2 nx_lst.1 bx2.out).1, Reps.ext e34 _ _ ra2, ?_, hys⟩
      rw [← hrn]
      exact hrest
    | true =>
      rw [if_pos rfl] at hrest
      obtain ⟨y', My', zs', he, hr', rfl⟩ := hrest
      show tE K W0 (evE cl melt) σ1 H4' fun y H5 => ∃ acc, H5 δ = some (.lst acc) ∧ acc.length < sizeLine ∧ CI K φ1 H1 φ5 H4 δ w1 run (yb ++ ys1) My (j + 1) (upd H5 δ (.lst (acc ++ [y])))
      refine ⟨L1, φ4, Mc, lr4.ext e4, m4, ?_⟩
      rw [he]
      intro φ6 H5 e5' m6 v rv
      have e35 := e34.trans e5'
      have hD6 := (e35.keep δ _ hDa2 nx_lst.1 bx2.out).1
      have bx6 := bx2.next e35 hDa2 nx_lst.1
      refine ⟨acc2, hD6, ?_, acc2 ++ [v], ys ++ [y'], zs', φ6, My', bx6.put hD _, (x2.trans e35.weak).trans (bx6.put1 _), bx6.putM m6 _ nx_lst, upd_same, ?_, ?_, by rw [← hys]; simp⟩
      · have l1 := ra2.length
        rw [← hys] at hlim
        rw [List.length_append, List.length_cons] at hlim
        have : lim = sizeLine := rfl
        omega
      · exact Reps.ex1 (bx6.put1 _) _ _ ((Reps.ext e35 _ _ ra2).append (.cons rv .nil))
      · rw [← hrn]
        exact hr'
  · have ei : j = w1.items.length := by omega
    subst ei
    rw [List.drop_length, ← hrn] at hr
    obtain ⟨hok, rfl, rfl⟩ := compL_nil hr
    rw [List.append_nil] at hys
    subst hys
    exact .inl ⟨(hw hok _).1 (Nat.le_refl _), hN _ _ _ bx2 m2 hDa2 ra2⟩
theorem comp2_run {K : PySem.W.Frag} {W : WX} {cl : Cl} {own own1 : List Nat} {melt : E} {tg tg1 : Tg} {mi mi1 : I} {mcs mcs1 : Es} {σ : L2.St} {H : Hp} {Q : VK} (hix : ∀ i ∈ tgIx tg, i ∈ own) (hix1 : ∀ i ∈ tgIx tg1, i ∈ own1)
    (h : tN K W (evN cl (.comp2 own own1 melt tg mi mcs tg1 mi1 mcs1)) σ H Q) : tLc2 (tI K W (evI cl mi)) (gT K tg) (tT K W0 (evC cl mcs)) (tI K W0 (evI cl mi1)) (gT K tg1) (tT K W0 (evC cl mcs1)) (tE K W0 (evE cl melt)) own own1 σ H Q := by
  obtain ⟨L, φ, M, lr, mh, p⟩ := h
  refine ⟨L, φ, M, lr, mh, (PR.bind (show PR K W σ φ H ((evI cl mi L M).bind fun w M1 =>
      ((compL2 w tg (wipe L own) (evC cl mcs) (fun L1 M => (evI cl mi1 L1 M).bind fun w1 M1 => (compL w1 tg1 (wipe L1 own1) (evC cl mcs1) (evE cl melt) w1.items M1)) w.items M1).nx).bind fun vs M2 => if vs.length ≤ lim then .ok (D.lst vs) M2 else .bad) _ from p)).mono fun w M1 φ1 H1 e1 m1 g1 => ?_⟩
  intro J hJ δ hD
  generalize hinn : (fun L1 M => (evI cl mi1 L1 M).bind fun w1 M1 => (compL w1 tg1 (wipe L1 own1) (evC cl mcs1) (evE cl melt) w1.items M1)) = inn at *
  cases hrun : compL2 w tg (wipe L own) (evC cl mcs) inn w.items M1 with
  | bad => rw [hrun] at g1; exact False.elim g1
  | exc c e M' => rw [hrun] at g1; exact False.elim g1
  | ok vs M2 =>
    rw [hrun] at g1
    replace g1 := show PR K W σ φ1 H1 (if vs.length ≤ lim then R.ok (D.lst vs) M2 else .bad) (fun d M' φ' H' => ∀ (o : HO) (p : Addr), ObjIs K φ' H' d o → H' p = none → Q (V.ref p) (upd H' p o)) from g1
    split at g1
    · rename_i hlim
      generalize hrn : (fun l M => compL2 w tg (wipe L own) (evC cl mcs) inn l M) = run at *
      have hr0 : run w.items M1 = .ok vs M2 := by rw [← hrn]; exact hrun
      refine ⟨fun i m H => m = w.items.length - i ∧ i ≤ w.items.length ∧ CS2 K φ1 H1 δ w run vs M2 i H, ⟨w.items.length, by simp, Nat.zero_le _, ?_⟩, ?_⟩
      · exact ⟨[], [], vs, { φ1 with b := δ :: φ1.b }, M1, Bx.start m1 hD, by
          have x := Bx.start (φ1 := φ1) (H1 := H1) (o := .lst []) m1 hD
          refine ⟨m1.nd, m1.len, fun b hb => ?_, m1.tab.ext fun b u hu => by rw [upd_ne (ne_of_none hu hD)]; exact hu, fun n a d h1 h2 => ?_⟩
          · rcases List.mem_cons.mp hb with z | z
            · rw [z]
              exact ⟨(m1.notin hD).1, _, upd_same, nx_lst⟩
            · obtain ⟨n, u, hu, hx⟩ := m1.bar b z
              exact ⟨n, u, by rw [upd_ne (ne_of_none hu hD)]; exact hu, hx⟩
          · refine (m1.at_ n a d h1 h2).ex1 (x.weak hD) (upd_ne fun z => (m1.notin hD).1 ?_)
            rw [← z]
            exact List.mem_of_getElem? h1, upd_same, .nil, hr0, rfl⟩
      · rintro i m H2 ⟨rfl, hi, acc, ys, zs, φ2, Mi, bx, m2, hDa, ra, hr, hys⟩
        have hw := hJ φ2 H2 Mi (bx.weak hD) m2
        by_cases hlt : i < w.items.length
        · have hdrop : w.items.drop i = w.items[i] :: w.items.drop (i + 1) := List.drop_eq_getElem_cons hlt
          rw [hdrop, ← hrn] at hr
          obtain ⟨hok, L1, c, Mc, k, ha, hc, hk, hrest⟩ := compL2_cons hr
          obtain ⟨_, hgo⟩ := hw hok i
          obtain ⟨go, hy⟩ := hgo w.items[i] (List.getElem?_eq_getElem hlt)
          refine .inr ⟨go, fun H' => CS2 K φ1 H1 δ w run vs M2 (i + 1) H', fun H' c => ⟨w.items.length - (i + 1), by omega, rfl, hlt, c⟩, fun x H' y => ?_⟩
          obtain ⟨e3, m3, r3⟩ := hy x H' y
          have lr3 : LR K φ2 H' (wipe L own) (L2.wipe σ own) := ((lr.ext e1).ex1 (bx.weak hD)).ext e3 |>.wipe own
          refine ⟨wipe L own, φ2, Mi, w.items[i], L1, lr3, m3, r3, ha, fun σ1 lr4 hv => ?_⟩
          obtain ⟨vals, hv⟩ := hv
          refine ⟨by rw [hv]; exact wipe_setAll hix, ⟨L1, φ2, Mi, lr4, m3, ?_⟩⟩
          rw [hc]
          intro φ4 H4 e4 m4
          refine ⟨k, hk, ?_⟩
          have e34 := e3.trans e4
          have bx4 := bx.next e34 hDa nx_lst.1
          have hD4 := (e34.keep δ _ hDa nx_lst.1 bx.out).1
          have ra4 := Reps.ext e34 _ _ ra
          cases k with
          | false =>
            rw [if_neg Bool.false_ne_true] at hrest
            show CS2 K φ1 H1 δ w run vs M2 (i + 1) H4
            refine ⟨acc, ys, zs, φ4, Mc, bx4, m4, hD4, ra4, ?_, hys⟩
            rw [← hrn]
            exact hrest
          | true =>
            rw [if_pos rfl] at hrest
            show if true = true then _ else _
            rw [if_pos rfl]
            obtain ⟨ys1, My, zs', he, hr', rfl⟩ := hrest
            rw [← hinn] at he
            refine comp_inner hix1 hD bx4 m4 hD4 ra4 (lr4.ext e4) ?_ he fun φ' H' acc' bx' m' hD' ra' => ?_
            · rw [← hys] at hlim
              rw [List.length_append, List.length_append] at hlim
              rw [List.length_append]
              omega
            · refine ⟨acc', ys ++ ys1, zs', φ', My, bx', m', hD', ra', ?_, by rw [← hys, List.append_assoc]⟩
              rw [← hrn]
              exact hr'
        · have ei : i = w.items.length := by omega
          subst ei
          rw [List.drop_length, ← hrn] at hr
          obtain ⟨hok, rfl, rfl⟩ := compL2_nil hr
          rw [List.append_nil] at hys
          subst hys
          refine .inl ⟨(hw hok _).1 (Nat.le_refl _), ?_⟩
          have q := g1 { φ2 with b := φ1.b } (dropA H2 δ) (bx.fin hD) (bx.finM m1 hD m2) (.lst acc) δ (.lst (Reps.ex1 bx.fin1 _ _ ra)) (if_pos rfl)
          rw [dropA_upd hDa] at q
          exact q
    · exact False.elim g1
end MP
/-! MiniPy 11: statements. -/
namespace MP
open PySem PySem.Spec PyProof.Rows L2
variable [TabC]

section
variable {X : Cx} {W : WX} {cl : Cl} {a b c tgE iter elt : Expr} {ma mb mc : E} {pos : Pos}
theorem mts_nil : PTs X [] (tT X.K W (evC cl .nil)) := ⟨fun pins s σ H Q I h => pts_nil.run pins s σ H Q I (by
  obtain ⟨L, φ, M, lr, mh, p⟩ := h
  obtain ⟨k, h1, h2⟩ := (show PR X.K W σ φ H (.ok (D.bl true) M) _ from p).here mh
  cases h1
  exact h2)⟩
theorem mts_one (hc : PT X c (tT X.K W (evE cl mc))) {r : Es} : PTs X [c] (tT X.K W (evC cl (.cons mc r))) := pts_one hc
theorem mn_lc {scope : Scope} {own : List (Str × Nat)} {tg : Tg} {mi : I} {mcs : Es} {melt : E} {ifs : List Expr} (hc : X.calm = true) (hN : X.N.Nodup) (hi : PI X tgE iter (tI X.K W (evI cl mi))) (ok : BlkOk X.N X.env.scope scope own) (hix : ∀ i ∈ tgIx tg, i ∈ own.map (·.2))
    (hg : ∀ (s : Shared) (H : Hp) (C : Addr) (l : List (Str × Addr)) (fp : List Addr), PG (X.blk s H scope (compEnvC scope l C X.env) fp) tgE (gT X.K tg)) (ht : ∀ (s : Shared) (H : Hp) (C : Addr) (l : List (Str × Addr)) (fp : List Addr), PTs (X.blk s H scope (compEnvC scope l C X.env) fp) ifs (tT X.K W0 (evC cl mcs)))
    (he : ∀ (s : Shared) (H : Hp) (C : Addr) (l : List (Str × Addr)) (fp : List Addr), PE (X.blk s H scope (compEnvC scope l C X.env) fp) elt (tE X.K W0 (evE cl melt))) (hs : ∀ x, foldedSetIterable iter X.env x = pure x) :
    PE X (.ListComp elt [⟨tgE, iter, ifs, 0⟩] scope pos) (tN X.K W (evN cl (.comp (own.map (·.2)) melt tg mi mcs))) :=
  imp_PE (pe_lc hc hN hi ok hg ht he hs) fun σ H Q h => comp_run (fun _ _ _ h => h) hix h
theorem mn_lc2 {tgE1 iter1 : Expr} {scope : Scope} {own : List (Str × Nat)} {own1 : List Nat} {tg tg1 : Tg} {mi mi1 : I} {mcs mcs1 : Es} {melt : E} {ifs ifs1 : List Expr} (hc : X.calm = true) (hN : X.N.Nodup) (hi : PI X tgE iter (tI X.K W (evI cl mi))) (ok : BlkOk X.N X.env.scope scope own) (hix : ∀ i ∈ tgIx tg, i ∈ own.map (·.2)) (hix1 : ∀ i ∈ tgIx tg1, i ∈ own1) (hv : ∀ i ∈ own1, i ∈ own.map (·.2))
    (hg : ∀ (s : Shared) (H : Hp) (C : Addr) (l : List (Str × Addr)) (fp : List Addr), PG (X.blk s H scope (compEnvC scope l C X.env) fp) tgE (gT X.K tg)) (ht : ∀ (s : Shared) (H : Hp) (C : Addr) (l : List (Str × Addr)) (fp : List Addr), PTs (X.blk s H scope (compEnvC scope l C X.env) fp) ifs (tT X.K W0 (evC cl mcs)))
    (hi1 : ∀ (s : Shared) (H : Hp) (C : Addr) (l : List (Str × Addr)) (fp : List Addr), PI (X.blk s H scope (compEnvC scope l C X.env) fp) tgE1 iter1 (tI X.K W0 (evI cl mi1))) (hg1 : ∀ (s : Shared) (H : Hp) (C : Addr) (l : List (Str × Addr)) (fp : List Addr), PG (X.blk s H scope (compEnvC scope l C X.env) fp) tgE1 (gT X.K tg1)) (ht1 : ∀ (s : Shared) (H : Hp) (C : Addr) (l : List (Str × Addr)) (fp : List Addr), PTs (X.blk s H scope (compEnvC scope l C X.env) fp) ifs1 (tT X.K W0 (evC cl mcs1)))
    (he : ∀ (s : Shared) (H : Hp) (C : Addr) (l : List (Str × Addr)) (fp : List Addr), PE (X.blk s H scope (compEnvC scope l C X.env) fp) elt (tE X.K W0 (evE cl melt))) (hs : ∀ x, foldedSetIterable iter X.env x = pure x) (hs1 : ∀ env x, foldedSetIterable iter1 env x = pure x) :
    PE X (.ListComp elt [⟨tgE, iter, ifs, 0⟩, ⟨tgE1, iter1, ifs1, 0⟩] scope pos) (tN X.K W (evN cl (.comp2 (own.map (·.2)) own1 melt tg mi mcs tg1 mi1 mcs1))) :=
  imp_PE (pe_lc2 hc hN hi ok hv hg ht hi1 hg1 ht1 he hs hs1) fun σ H Q h => comp2_run hix hix1 h
end

/-! ### what a statement leaves -/
def PRS (K : PySem.W.Frag) (W : WX) (φ : Ph) (H : Hp) (r : RS) (De : Ends) : Prop := match r with
  | .next L' M' => ∀ φ' H' σ', Ext φ H φ' H' → MH K φ' H' M' → LR K φ' H' L' σ' → De.nx σ' H'
  | .brk L' M' => ∀ φ' H' σ', Ext φ H φ' H' → MH K φ' H' M' → LR K φ' H' L' σ' → De.bk σ' H'
  | .cont L' M' => ∀ φ' H' σ', Ext φ H φ' H' → MH K φ' H' M' → LR K φ' H' L' σ' → De.ct σ' H'
  | .ret d M' => ∀ φ' H' v, Ext φ H φ' H' → MH K φ' H' M' → Rep K φ' H' d v → De.rt v H'
  | .exc c e L' M' => ∀ φ' H' σ' cls dd, Ext φ H φ' H' → MH K φ' H' M' → LR K φ' H' L' σ' → XRep K φ' H' c e cls dd → W cls dd σ' H'
  | .bad => False
def tS (K : PySem.W.Frag) (W : WX) (m : Lo → List D → RS) : TS := fun De σ H => ∃ L φ M, LR K φ H L σ ∧ MH K φ H M ∧ PRS K W φ H (m L M) De
section
variable {K : PySem.W.Frag} {W : WX} {σ : L2.St} {φ φ1 φ2 : Ph} {H H1 H2 : Hp} {De : Ends}
theorem PRS.ext {r : RS} (p : PRS K W φ H r De) (e : Ext φ H φ1 H1) : PRS K W φ1 H1 r De := by
  cases r with
  | next L M => exact fun φ' H' σ' e' m l => p φ' H' σ' (e.trans e') m l
  | brk L M => exact fun φ' H' σ' e' m l => p φ' H' σ' (e.trans e') m l
  | cont L M => exact fun φ' H' σ' e' m l => p φ' H' σ' (e.trans e') m l
  | ret d M => exact fun φ' H' v e' m r => p φ' H' v (e.trans e') m r
  | exc c x L M => exact fun φ' H' σ' cls dd e' m l r => p φ' H' σ' cls dd (e.trans e') m l r
  | bad => exact p
theorem PRS.thn {α : Type} {L : Lo} {r : R α} {f : α → List D → RS} (lr : LR K φ H L σ) (p : PRS K W φ H (r.then L f) De) : PR K W σ φ H r fun a M1 φ1 H1 => PRS K W φ1 H1 (f a M1) De := by
  cases r with
  | ok a M => exact fun φ' H' e m => PRS.ext (show PRS K W φ H (f a M) De from p) e
  | exc c e M => exact fun φ' H' cls dd e m x => p φ' H' σ cls dd e m (lr.ext e) x
  | bad => exact p
theorem PRS.mono {r : RS} {De' : Ends} (p : PRS K W φ H r De) (h1 : ∀ φ' H' σ' L' M', r = .next L' M' → Ext φ H φ' H' → MH K φ' H' M' → LR K φ' H' L' σ' → De.nx σ' H' → De'.nx σ' H') (h2 : ∀ φ' H' σ' L' M', r = .brk L' M' → Ext φ H φ' H' → MH K φ' H' M' → LR K φ' H' L' σ' → De.bk σ' H' → De'.bk σ' H')
    (h3 : ∀ φ' H' σ' L' M', r = .cont L' M' → Ext φ H φ' H' → MH K φ' H' M' → LR K φ' H' L' σ' → De.ct σ' H' → De'.ct σ' H') (h4 : ∀ v H, De.rt v H → De'.rt v H) : PRS K W φ H r De' := by
  cases r with
  | next L M => exact fun φ' H' σ' e' m l => h1 φ' H' σ' L M rfl e' m l (p φ' H' σ' e' m l)
  | brk L M => exact fun φ' H' σ' e' m l => h2 φ' H' σ' L M rfl e' m l (p φ' H' σ' e' m l)
  | cont L M => exact fun φ' H' σ' e' m l => h3 φ' H' σ' L M rfl e' m l (p φ' H' σ' e' m l)
  | ret d M => exact fun φ' H' v e' m r => h4 _ _ (p φ' H' v e' m r)
  | exc c x L M => exact p
  | bad => exact p
theorem PRS.here {L : Lo} {M : List D} (p : PRS K W φ H (.next L M) De) (l : LR K φ H L σ) (m : MH K φ H M) : De.nx σ H := p φ H σ Ext.refl m l
end
section
variable {X : Cx} {W : WX} {cl : Cl} {a b c tgE iter elt : Expr} {ma mb mc : E} {pos : Pos} {st : Stmt} {sts : List Stmt} {ms : S} {mss : Ss}
theorem ss_nil : PSs X [] (tS X.K W (exSs cl .nil)) := by
  refine imp_PSs pss_nil fun De σ H h => ?_
  obtain ⟨L, φ, M, lr, mh, p⟩ := h
  exact (show PRS X.K W φ H (.next L M) De from p).here lr mh
theorem ss_cons (h1 : PS X st (tS X.K W (exS cl ms))) (h2 : PSs X sts (tS X.K W (exSs cl mss))) : PSs X (st :: sts) (tS X.K W (exSs cl (.cons ms mss))) := by
  refine imp_PSs (pss_cons h1 h2) fun De σ H h => ?_
  obtain ⟨L, φ, M, lr, mh, p⟩ := h
  refine ⟨L, φ, M, lr, mh, ?_⟩
  replace p := show PRS X.K W φ H ((exS cl ms L M).seq fun L1 M1 => exSs cl mss L1 M1) De from p
  cases hr : exS cl ms L M with
  | next L1 M1 =>
    rw [hr] at p
    exact fun φ' H' σ' e m l => ⟨L1, φ', M1, l, m, PRS.ext (show PRS X.K W φ H (exSs cl mss L1 M1) De from p) e⟩
  | brk L1 M1 => rw [hr] at p; exact p
  | cont L1 M1 => rw [hr] at p; exact p
  | ret d M1 => rw [hr] at p; exact p
  | exc c e L1 M1 => rw [hr] at p; exact p
  | bad => rw [hr] at p; exact p
theorem s_pass : PS X (.Pass pos) (tS X.K W (exS cl .pass)) := by
  refine imp_PS ps_pass fun De σ H h => ?_
  obtain ⟨L, φ, M, lr, mh, p⟩ := h
  exact (show PRS X.K W φ H (.next L M) De from p).here lr mh
theorem s_brk : PS X (.Break pos) (tS X.K W (exS cl .brk)) := by
  refine imp_PS ps_break fun De σ H h => ?_
  obtain ⟨L, φ, M, lr, mh, p⟩ := h
  exact (show PRS X.K W φ H (.brk L M) De from p) φ H σ Ext.refl mh lr
theorem s_cont : PS X (.Continue pos) (tS X.K W (exS cl .cont)) := by
  refine imp_PS ps_continue fun De σ H h => ?_
  obtain ⟨L, φ, M, lr, mh, p⟩ := h
  exact (show PRS X.K W φ H (.cont L M) De from p) φ H σ Ext.refl mh lr
theorem s_ex (ha : PE X a (tE X.K W (evE cl ma))) (hs : swapsWith a none pos.line X.env = pure false) : PS X (.Expr a pos) (tS X.K W (exS cl (.ex ma))) := by
  refine imp_PS (ps_expr ha hs) fun De σ H h => ?_
  obtain ⟨L, φ, M, lr, mh, p⟩ := h
  refine tE_use lr mh (PRS.thn lr (show PRS X.K W φ H ((evE cl ma L M).then L fun _ M1 => .next L M1) De from p)) fun d M1 φ1 H1 v e1 m1 g1 r1 => ?_
  exact g1.here (lr.ext e1) m1
theorem s_ret (ha : PE X a (tE X.K W (evE cl ma))) : PS X (.Return (some a) pos) (tS X.K W (exS cl (.ret ma))) := by
  refine imp_PS (ps_ret ha) fun De σ H h => ?_
  obtain ⟨L, φ, M, lr, mh, p⟩ := h
  refine tE_use lr mh (PRS.thn lr (show PRS X.K W φ H ((evE cl ma L M).then L fun d M1 => .ret d M1) De from p)) fun d M1 φ1 H1 v e1 m1 g1 r1 => ?_
  exact g1 φ1 H1 v Ext.refl m1 r1
theorem s_ret0 : PS X (.Return none pos) (tS X.K W (exS cl (.ret (.lit .non)))) := by
  refine imp_PS ps_retN fun De σ H h => ?_
  obtain ⟨L, φ, M, lr, mh, p⟩ := h
  exact (show PRS X.K W φ H (.ret .non M) De from p) φ H .non Ext.refl mh .non
theorem s_if {as bs : List Stmt} {mas mbs : Ss} (hc : PT X c (tT X.K W (evE cl mc))) (ha : PSs X as (tS X.K W (exSs cl mas))) (hb : PSs X bs (tS X.K W (exSs cl mbs))) : PS X (.If c as bs pos) (tS X.K W (exS cl (.ite mc mas mbs))) := by
  refine imp_PS (ps_if hc ha hb) fun De σ H h => ?_
  obtain ⟨L, φ, M, lr, mh, p⟩ := h
  refine tT_use lr mh (PRS.thn lr (show PRS X.K W φ H ((evE cl mc L M).then L fun x M1 => (ofO (truth M1 x) M1).then L fun k M1 => if k then exSs cl mas L M1 else exSs cl mbs L M1) De from p)) fun d M1 φ1 H1 e1 m1 g1 => ?_
  cases hk : truth M1 d with
  | none => rw [hk] at g1; exact False.elim g1
  | some k =>
    rw [hk] at g1
    refine ⟨k, rfl, ?_⟩
    replace g1 := show PRS X.K W φ1 H1 (if k then exSs cl mas L M1 else exSs cl mbs L M1) De from g1
    cases k with
    | true => exact ⟨L, φ1, M1, lr.ext e1, m1, g1⟩
    | false => exact ⟨L, φ1, M1, lr.ext e1, m1, g1⟩
/-- the end of a store -/
theorem asg_end {e : E} {t : Tg} {De : Ends} {σ : L2.St} {H : Hp} (h : tS X.K W (exS cl (.asg t e)) De σ H) : tE X.K W (evE cl e) σ H fun x H1 => gT X.K t x σ H1 De.nx := by
  obtain ⟨L, φ, M, lr, mh, p⟩ := h
  refine tE_use lr mh (PRS.thn lr (show PRS X.K W φ H ((evE cl e L M).then L fun d M1 => match asg t d L with | some L1 => .next L1 M1 | none => .bad) De from p)) fun d M1 φ1 H1 v e1 m1 g1 r1 => ?_
  cases ha : asg t d L with
  | none => rw [ha] at g1; exact False.elim g1
  | some L1 =>
    rw [ha] at g1
    exact ⟨L, φ1, M1, d, L1, lr.ext e1, m1, r1, ha, fun σ1 l _ => (show PRS X.K W φ1 H1 (.next L1 M1) De from g1).here l m1⟩
theorem s_asg {t : Tg} (ha : PE X a (tE X.K W (evE cl ma))) (hg : PG X tgE (gT X.K t)) (hs : swapsWithSole [tgE] a pos.line X.env = pure false) (hw : swappedStores [tgE] a X.env = pure none) (h1 : (assignEach [tgE] X.env).map (·.2) = [assign tgE X.env]) : PS X (.Assign [tgE] a pos) (tS X.K W (exS cl (.asg t ma))) :=
  imp_PS (ps_asg ha hg hs hw h1) fun De σ H h => asg_end h
theorem s_set {i : Nat} {x : Str} {pos' : Pos} (hN : X.N.Nodup) (hi : X.N[i]? = some x) (hx : Loc X.env.scope x) (ha : PE X a (tE X.K W (evE cl ma))) (hs : swapsWith a (some (.Name x pos')) pos.line X.env = pure false) (hf : X.fn x = true ∨ X.env.scope.names.lookup x = some .local) :
    PS X (.Assign [.Name x pos'] a pos) (tS X.K W (exS cl (.asg (.name i) ma))) := by
  refine imp_PS (ps_set hN hi hx ha hs hf) fun De σ H h => ?_
  obtain ⟨L, φ, M, lr, mh, p⟩ := h
  refine tE_use lr mh (PRS.thn lr (show PRS X.K W φ H ((evE cl ma L M).then L fun d M1 => .next (L.set i (some d)) M1) De from p)) fun d M1 φ1 H1 v e1 m1 g1 r1 => ?_
  exact g1.here ((lr.ext e1).set i r1) m1
/-- name = [..] on one line -/
theorem s_setLc {i : Nat} {y : Str} {py spos : Pos} {scope : Scope} {own : List (Str × Nat)} {tg : Tg} {mi : I} {mcs : Es} {melt : E} {ifs : List Expr} {fr : Bool} (hc : X.calm = true) (hN : X.N.Nodup) (hy : X.N[i]? = some y) (hyl : X.env.scope.names.lookup y = some .local)
    (hsw : swapsWith (.ListComp elt [⟨tgE, iter, ifs, 0⟩] scope pos) (some (.Name y py)) spos.line X.env = pure true) (hi : PI X tgE iter (tI X.K W (evI cl mi))) (ok : BlkOk X.N X.env.scope scope own) (hix : ∀ i ∈ tgIx tg, i ∈ own.map (·.2))
    (hg : ∀ (s : Shared) (H : Hp) (C : Addr) (l : List (Str × Addr)) (fp : List Addr), PG (X.blk s H scope (compEnvC scope l C X.env) fp) tgE (gT X.K tg)) (ht : ∀ (s : Shared) (H : Hp) (C : Addr) (l : List (Str × Addr)) (fp : List Addr), PTs (X.blk s H scope (compEnvC scope l C X.env) fp) ifs (tT X.K W0 (evC cl mcs)))
    (he : ∀ (s : Shared) (H : Hp) (C : Addr) (l : List (Str × Addr)) (fp : List Addr), PE (X.blk s H scope (compEnvC scope l C X.env) fp) elt (tE X.K W0 (evE cl melt))) (hs : ∀ x, foldedSetIterable iter X.env x = pure x) :
    PS X (.Assign [.Name y py] (.ListComp elt [⟨tgE, iter, ifs, 0⟩] scope pos) spos) (tS X.K W (exS cl (.asg (.name i) (.new fr (.comp (own.map (·.2)) melt tg mi mcs))))) := by
  refine imp_PS (ps_setLc hc hN hy hyl hsw hi ok hg ht he hs) fun De σ H h => ?_
  show tLc _ _ _ _ _ σ H fun x H1 => gName i x σ H1 De.nx
  refine comp_run (fun _ _ _ h => h) hix ?_
  obtain ⟨L, φ, M, lr, mh, p⟩ := h
  have p' := PRS.thn lr (show PRS X.K W φ H ((evE cl (.new fr (.comp (own.map (·.2)) melt tg mi mcs)) L M).then L fun d M1 => .next (L.set i (some d)) M1) De from p)
  refine ⟨L, φ, M, lr, mh, ?_⟩
  refine (PR.bind (show PR X.K W σ φ H ((evN cl (.comp (own.map (·.2)) melt tg mi mcs) L M).bind fun d M1 => if fr then .ok d M1 else .ok (D.ref M1.length) (M1 ++ [d])) _ from p')).mono fun d M1 φ1 H1 e1 m1 g o q ob hp => ?_
  cases fr with
  | true =>
    rw [if_pos rfl] at g
    refine (g φ1 _ (Ext.new hp) (m1.new hp)).here (((lr.ext e1).ext (Ext.new hp)).set i ?_) (m1.new hp)
    cases ob with
    | lst r => exact .lst upd_same (m1.notin hp) (Reps.ext (Ext.new hp) _ _ r)
    | dct0 => exact .dct0 upd_same (m1.notin hp)
  | false =>
    rw [if_neg Bool.false_ne_true] at g
    have ob' : ObjAt X.K (φ1.more q) (upd H1 q o) d q := by
      cases ob with
      | lst r => exact .lst upd_same (Reps.ext (Ext.alloc hp) _ _ r)
      | dct0 => exact .dct0 upd_same
    refine (g (φ1.more q) _ (Ext.alloc hp) (m1.alloc hp ob')).here (((lr.ext e1).ext (Ext.alloc hp)).set i (.ref ?_)) (m1.alloc hp ob')
    rw [← m1.len, List.getElem?_append_right (Nat.le_refl _), Nat.sub_self]
    rfl
theorem s_setLc2 {tgE1 iter1 : Expr} {i : Nat} {y : Str} {py spos : Pos} {scope : Scope} {own : List (Str × Nat)} {own1 : List Nat} {tg tg1 : Tg} {mi mi1 : I} {mcs mcs1 : Es} {melt : E} {ifs ifs1 : List Expr} {fr : Bool} (hc : X.calm = true) (hN : X.N.Nodup) (hy : X.N[i]? = some y) (hyl : X.env.scope.names.lookup y = some .local)
    (hsw : swapsWith (.ListComp elt [⟨tgE, iter, ifs, 0⟩, ⟨tgE1, iter1, ifs1, 0⟩] scope pos) (some (.Name y py)) spos.line X.env = pure true) (hi : PI X tgE iter (tI X.K W (evI cl mi))) (ok : BlkOk X.N X.env.scope scope own) (hix : ∀ i ∈ tgIx tg, i ∈ own.map (·.2)) (hix1 : ∀ i ∈ tgIx tg1, i ∈ own1) (hv : ∀ i ∈ own1, i ∈ own.map (·.2))
    (hg : ∀ (s : Shared) (H : Hp) (C : Addr) (l : List (Str × Addr)) (fp : List Addr), PG (X.blk s H scope (compEnvC scope l C X.env) fp) tgE (gT X.K tg)) (ht : ∀ (s : Shared) (H : Hp) (C : Addr) (l : List (Str × Addr)) (fp : List Addr), PTs (X.blk s H scope (compEnvC scope l C X.env) fp) ifs (tT X.K W0 (evC cl mcs)))
    (hi1 : ∀ (s : Shared) (H : Hp) (C : Addr) (l : List (Str × Addr)) (fp : List Addr), PI (X.blk s H scope (compEnvC scope l C X.env) fp) tgE1 iter1 (tI X.K W0 (evI cl mi1))) (hg1 : ∀ (s : Shared) (H : Hp) (C : Addr) (l : List (Str × Addr)) (fp : List Addr), PG (X.blk s H scope (compEnvC scope l C X.env) fp) tgE1 (gT X.K tg1)) (ht1 : ∀ (s : Shared) (H : Hp) (C : Addr) (l : List (Str × Addr)) (fp : List Addr), PTs (X.blk s H scope (compEnvC scope l C X.env) fp) ifs1 (tT X.K W0 (evC cl mcs1)))
    (he : ∀ (s : Shared) (H : Hp) (C : Addr) (l : List (Str × Addr)) (fp : List Addr), PE (X.blk s H scope (compEnvC scope l C X.env) fp) elt (tE X.K W0 (evE cl melt))) (hs : ∀ x, foldedSetIterable iter X.env x = pure x) (hs1 : ∀ env x, foldedSetIterable iter1 env x = pure x) :
    PS X (.Assign [.Name y py] (.ListComp elt [⟨tgE, iter, ifs, 0⟩, ⟨tgE1, iter1, ifs1, 0⟩] scope pos) spos) (tS X.K W (exS cl (.asg (.name i) (.new fr (.comp2 (own.map (·.2)) own1 melt tg mi mcs tg1 mi1 mcs1))))) := by
  refine imp_PS (ps_setLc2 hc hN hy hyl hsw hi ok hv hg ht hi1 hg1 ht1 he hs hs1) fun De σ H h => ?_
  show tLc2 _ _ _ _ _ _ _ _ _ σ H fun x H1 => gName i x σ H1 De.nx
  refine comp2_run hix hix1 ?_
  obtain ⟨L, φ, M, lr, mh, p⟩ := h
  have p' := PRS.thn lr (show PRS X.K W φ H ((evE cl (.new fr (.comp2 (own.map (·.2)) own1 melt tg mi mcs tg1 mi1 mcs1)) L M).then L fun d M1 => .next (L.set i (some d)) M1) De from p)
  refine ⟨L, φ, M, lr, mh, ?_⟩
  refine (PR.bind (show PR X.K W σ φ H ((evN cl (.comp2 (own.map (·.2)) own1 melt tg mi mcs tg1 mi1 mcs1) L M).bind fun d M1 => if fr then .ok d M1 else .ok (D.ref M1.length) (M1 ++ [d])) _ from p')).mono fun d M1 φ1 H1 e1 m1 g o q ob hp => ?_
  cases fr with
  | true =>
    rw [if_pos rfl] at g
    refine (g φ1 _ (Ext.new hp) (m1.new hp)).here (((lr.ext e1).ext (Ext.new hp)).set i ?_) (m1.new hp)
    cases ob with
    | lst r => exact .lst upd_same (m1.notin hp) (Reps.ext (Ext.new hp) _ _ r)
    | dct0 => exact .dct0 upd_same (m1.notin hp)
  | false =>
    rw [if_neg Bool.false_ne_true] at g
    have ob' : ObjAt X.K (φ1.more q) (upd H1 q o) d q := by
      cases ob with
      | lst r => exact .lst upd_same (Reps.ext (Ext.alloc hp) _ _ r)
      | dct0 => exact .dct0 upd_same
    refine (g (φ1.more q) _ (Ext.alloc hp) (m1.alloc hp ob')).here (((lr.ext e1).ext (Ext.alloc hp)).set i (.ref ?_)) (m1.alloc hp ob')
    rw [← m1.len, List.getElem?_append_right (Nat.le_refl _), Nat.sub_self]
    rfl
theorem s_par {i j : Nat} {x y : Str} {px py pt : Pos} {kt k2 : Nat} {pt2 : Pos} {mes : Es} (hc : X.calm = true) (hN : X.N.Nodup) (hi : X.N[i]? = some x) (hj : X.N[j]? = some y) (hij : i ≠ j)
    (hx : X.env.scope.names.lookup x = some .local) (hy : X.env.scope.names.lookup y = some .local) (ha : PA X [a, b] (tEs X.K W (evEs cl mes)))
    (hw : swappedStores [.Tuple [.Name x px, .Name y py] kt pt] (.Tuple [a, b] k2 pt2) X.env = pure (some [x, y]))
    (hs : swapsWithSole [.Tuple [.Name x px, .Name y py] kt pt] (.Tuple [a, b] k2 pt2) pos.line X.env = pure false) :
    PS X (.Assign [.Tuple [.Name x px, .Name y py] kt pt] (.Tuple [a, b] k2 pt2) pos) (tS X.K W (exS cl (.asg (.tup [i, j]) (.tup mes)))) := by
  refine imp_PS (ps_par hc hN hi hj hij hx hy ha hw hs) fun De σ H h => ?_
  obtain ⟨L, φ, M, lr, mh, p⟩ := h
  have p' := PRS.thn lr (show PRS X.K W φ H ((evE cl (.tup mes) L M).then L fun d M1 => match asg (.tup [i, j]) d L with | some L1 => .next L1 M1 | none => .bad) De from p)
  refine tEs_use lr mh (PR.bind (show PR X.K W σ φ H ((evEs cl mes L M).bind fun vs M1 => if vs.length ≤ lim then .ok (D.tup vs) M1 else .bad) _ from p')) fun ds M1 φ1 H1 vs e1 m1 g1 r1 => ?_
  split at g1
  · replace g1 := g1.here m1
    match ds, vs, r1 with
    | [], _, _ => exact False.elim g1
    | [_], _, _ => exact False.elim g1
    | _ :: _ :: _ :: _, _, _ => exact False.elim g1
    | [d1, d2], _, .cons q1 (.cons q2 .nil) =>
      exact ⟨_, _, rfl, (show PRS X.K W φ1 H1 (.next ((L.set i (some d1)).set j (some d2)) M1) De from g1).here (((lr.ext e1).set i q1).set j q2) m1⟩
  · exact False.elim g1
theorem s_aug {i : Nat} {x : Str} {o : Bop} {pos' : Pos} (hop : o ≠ .pow) (hN : X.N.Nodup) (hi : X.N[i]? = some x) (hx : Loc X.env.scope x) (ha : PE X a (tE X.K W (evE cl ma))) (hf : X.fn x = true ∨ X.env.scope.names.lookup x = some .local) : PS X (.AugAssign (.Name x pos') (opOf o) a pos) (tS X.K W (exS cl (.aug i o ma))) := by
  refine imp_PS (ps_aug hN hi hx ha (iop_int o hop) hf) fun De σ H h => ?_
  obtain ⟨L, φ, M, lr, mh, p⟩ := h
  replace p := show PRS X.K W φ H (match L[i]? with
    | some (some x) => (evE cl ma L M).then L fun y M1 => match x, y with | .int a, .int b => (match intS o a b with | some z => .next (L.set i (some (.int z))) M1 | none => .bad) | _, _ => .bad
    | _ => .bad) De from p
  split at p
  · rename_i d hd
    obtain ⟨v, h1, h2⟩ := lr.at_ i d hd
    refine ⟨v, h1, tE_use lr mh (PRS.thn lr p) fun d2 M1 φ1 H1 v2 e1 m1 g1 r1 => ?_⟩
    split at g1
    · cases h2
      cases r1
      rename_i a b
      cases hz : intS o a b with
      | none => rw [hz] at g1; exact False.elim g1
      | some z =>
        rw [hz] at g1
        exact ⟨_, _, _, rfl, rfl, hz, (show PRS X.K W φ1 H1 (.next (L.set i (some (.int z))) M1) De from g1).here ((lr.ext e1).set i (.int z)) m1⟩
    · exact False.elim g1
  · exact False.elim p
theorem s_setI {tpos : Pos} (hv : PE X a (tE X.K W (evE cl ma))) (ho : PE X b (tE X.K W (evE cl mb))) (hi : PE X c (tE X.K W (evE cl mc)))
    (ha : ∀ v, assign (.Subscript b c tpos) X.env v = (do
      let ov ← holding [v] (eval b X.env)
      let iv ← holding [v, ov] (eval c X.env)
      standAt tpos
      holding [v, ov, iv] (setItem ov iv v)
      release [v, ov, iv] []))
    (hs : swapsWithSole [.Subscript b c tpos] a pos.line X.env = pure false) (hw : swappedStores [.Subscript b c tpos] a X.env = pure none) (h1 : (assignEach [.Subscript b c tpos] X.env).map (·.2) = [assign (.Subscript b c tpos) X.env]) :
    PS X (.Assign [.Subscript b c tpos] a pos) (tS X.K W (exS cl (.setI mb mc ma))) := by
  refine imp_PS (ps_asg hv (pg_sub ho hi ps_setS ha) hs hw h1) fun De σ H h => ?_
  obtain ⟨L, φ, M, lr, mh, p⟩ := h
  refine tE_use lr mh (PRS.thn lr (show PRS X.K W φ H ((evE cl ma L M).then L fun v M1 => (evE cl mb L M1).then L fun x M2 => (evE cl mc L M2).then L fun y M3 => match setS M3 x y v with | some M4 => .next L M4 | none => .bad) De from p)) fun d M1 φ1 H1 v e1 m1 g1 r1 => ?_
  refine tE_use (lr.ext e1) m1 (PRS.thn (lr.ext e1) g1) fun d2 M2 φ2 H2 v2 e2 m2 g2 r2 => ?_
  refine tE_use ((lr.ext e1).ext e2) m2 (PRS.thn ((lr.ext e1).ext e2) g2) fun d3 M3 φ3 H3 v3 e3 m3 g3 r3 => ?_
  cases hs : setS M3 d2 d3 d with
  | none => rw [hs] at g3; exact False.elim g3
  | some M4 =>
    rw [hs] at g3
    refine ⟨φ3, M3, d2, d3, d, M4, m3, Rep.ext e3 _ _ r2, r3, Rep.ext (e2.trans e3) _ _ r1, hs, fun H' e m => ?_⟩
    exact (show PRS X.K W φ3 H3 (.next L M4) De from g3) φ3 H' σ e m ((lr.ext e1).ext (e2.trans (e3.trans e)))
theorem s_for {tg : Tg} {mi : I} {body : List Stmt} (hp : PassesOwn (model X.prog X.w) X.A X.env X.xe) (hc : X.calm = true) (hi : PI X tgE iter (tI X.K W (evI cl mi))) (hg : PG X tgE (gT X.K tg)) (hb : PSs X body (tS X.K W (exSs cl mss)))
    (hs : ∀ x, foldedSetIterable iter X.env x = pure x) : PS X (.For tgE iter body [] pos) (tS X.K W (exS cl (.for tg mi mss))) := by
  refine imp_PS (ps_for hp hc hi hg hb hs) fun De σ H h => ?_
  obtain ⟨L, φ, M, lr, mh, p⟩ := h
  refine ⟨L, φ, M, lr, mh, (PRS.thn lr (show PRS X.K W φ H ((evI cl mi L M).then L fun w M1 => forL w tg (exSs cl mss) w.items L M1) De from p)).mono fun w M1 φ1 H1 e1 m1 g1 => ?_⟩
  intro J hJ
  refine ⟨fun i m σ H => m = w.items.length - i ∧ i ≤ w.items.length ∧ ∃ L φ M, Ext φ1 H1 φ H ∧ LR X.K φ H L σ ∧ MH X.K φ H M ∧ PRS X.K W φ H (forL w tg (exSs cl mss) (w.items.drop i) L M) De, ⟨w.items.length, by simp, Nat.zero_le _, L, φ1, M1, Ext.refl, lr.ext e1, m1, g1⟩, ?_⟩
  rintro i m σ2 H2 ⟨rfl, hi, L2', φ2, M2, e2, lr2, m2, g2⟩
  have hw := hJ φ2 H2 M2 e2.weak m2
  by_cases hlt : i < w.items.length
  · rw [List.drop_eq_getElem_cons hlt] at g2
    unfold forL at g2
    split at g2
    · rename_i hok
      obtain ⟨go, hy⟩ := (hw hok i).2 w.items[i] (List.getElem?_eq_getElem hlt)
      split at g2
      · exact False.elim g2
      · rename_i L3 ha
        refine .inr ⟨go, fun σ' H' => ∃ L φ M, Ext φ1 H1 φ H' ∧ LR X.K φ H' L σ' ∧ MH X.K φ H' M ∧ PRS X.K W φ H' (forL w tg (exSs cl mss) (w.items.drop (i + 1)) L M) De, fun σ' H' q => ⟨w.items.length - (i + 1), by omega, rfl, hlt, q⟩, fun x H' y => ?_⟩
        obtain ⟨e3, m3, r3⟩ := hy x H' y
        refine ⟨L2', φ2, M2, w.items[i], L3, lr2.ext e3, m3, r3, ha, fun σ4 l4 _ => ⟨L3, φ2, M2, l4, m3, ?_⟩⟩
        cases hr : exSs cl mss L3 M2 with
        | next L5 M5 => rw [hr] at g2; exact fun φ' H' σ' e m l => ⟨L5, φ', M5, e2.trans (e3.trans e), l, m, PRS.ext g2 (e3.trans e)⟩
        | cont L5 M5 => rw [hr] at g2; exact fun φ' H' σ' e m l => ⟨L5, φ', M5, e2.trans (e3.trans e), l, m, PRS.ext g2 (e3.trans e)⟩
        | brk L5 M5 => rw [hr] at g2; exact PRS.ext (r := .next L5 M5) g2 e3
        | ret d M5 => rw [hr] at g2; exact PRS.ext (r := .ret d M5) g2 e3
        | exc c e L5 M5 => rw [hr] at g2; exact PRS.ext (r := .exc c e L5 M5) g2 e3
        | bad => rw [hr] at g2; exact g2
    · exact False.elim g2
  · have ei : i = w.items.length := by omega
    subst ei
    rw [List.drop_length] at g2
    unfold forL at g2
    split at g2
    · rename_i hok
      exact .inl ⟨(hw hok _).1 (Nat.le_refl _), (show PRS X.K W φ2 H2 (.next L2' M2) De from g2).here lr2 m2⟩
    · exact False.elim g2
theorem s_while {body : List Stmt} (hp : PassesOwn (model X.prog X.w) X.A X.env X.xe) (hc : PT X c (tT X.K W (evE cl mc))) (hb : PSs X body (tS X.K W (exSs cl mss))) : PS X (.While c body [] pos) (tS X.K W (exS cl (.whil mc mss))) := by
  refine imp_PS (ps_while hp hc hb) fun De σ H h => ?_
  obtain ⟨L, φ, M, lr, mh, p⟩ := h
  refine ⟨fun m σ H => ∃ L φ M, LR X.K φ H L σ ∧ MH X.K φ H M ∧ PRS X.K W φ H (whileL (evE cl mc) (exSs cl mss) m L M) De, ⟨cl.fuel, L, φ, M, lr, mh, p⟩, ?_⟩
  rintro m σ2 H2 ⟨L2', φ2, M2, lr2, m2, g2⟩
  cases m with
  | zero => exact False.elim g2
  | succ m =>
    refine tT_use lr2 m2 (PRS.thn lr2 (show PRS X.K W φ2 H2 ((evE cl mc L2' M2).then L2' fun x M1 => (ofO (truth M1 x) M1).then L2' fun k M1 => if k then
      match exSs cl mss L2' M1 with
      | .next L2 M2 => whileL (evE cl mc) (exSs cl mss) m L2 M2
      | .cont L2 M2 => whileL (evE cl mc) (exSs cl mss) m L2 M2
      | .brk L2 M2 => .next L2 M2
      | .ret d M2 => .ret d M2
      | .exc c e L2 M2 => .exc c e L2 M2
      | .bad => .bad
      else .next L2' M1) De from g2)) fun d M1 φ1 H1 e1 m1 g1 => ?_
    cases hk : truth M1 d with
    | none => rw [hk] at g1; exact False.elim g1
    | some k =>
      rw [hk] at g1
      refine ⟨k, rfl, ?_⟩
      cases k with
      | true =>
        rw [if_pos rfl]
        replace g1 := show PRS X.K W φ1 H1 (match exSs cl mss L2' M1 with
          | .next L2 M2 => whileL (evE cl mc) (exSs cl mss) m L2 M2
          | .cont L2 M2 => whileL (evE cl mc) (exSs cl mss) m L2 M2
          | .brk L2 M2 => .next L2 M2
          | .ret d M2 => .ret d M2
          | .exc c e L2 M2 => .exc c e L2 M2
          | .bad => .bad) De from g1
        refine ⟨fun σ' H' => ∃ L φ M, LR X.K φ H' L σ' ∧ MH X.K φ H' M ∧ PRS X.K W φ H' (whileL (evE cl mc) (exSs cl mss) m L M) De, fun σ' H' q => ⟨m, Nat.lt_succ_self _, q⟩, L2', φ1, M1, lr2.ext e1, m1, ?_⟩
        cases hr : exSs cl mss L2' M1 with
        | next L5 M5 => rw [hr] at g1; exact fun φ' H' σ' e m l => ⟨L5, φ', M5, l, m, PRS.ext g1 e⟩
        | cont L5 M5 => rw [hr] at g1; exact fun φ' H' σ' e m l => ⟨L5, φ', M5, l, m, PRS.ext g1 e⟩
        | brk L5 M5 => rw [hr] at g1; exact g1
        | ret d M5 => rw [hr] at g1; exact g1
        | exc c e L5 M5 => rw [hr] at g1; exact g1
        | bad => rw [hr] at g1; exact g1
      | false =>
        rw [if_neg Bool.false_ne_true]
        exact (show PRS X.K W φ1 H1 (.next L2' M1) De from g1).here (lr2.ext e1) m1
/-- raise C('text') -/
structure ExcOk (K : PySem.W.Frag) (x : Str) (C : Addr) : Prop where
  ns : PySem.W.nsIn K mainGlobals x = some (some (.ref C))
  own : ∃ (B newId initId : String) (bmB : List Value), ExcBaseFacts B newId initId bmB ∧ PySem.W.excIn K C bmB newId = true
  keep : PySem.W.keepIn K (.ref C) = true
  base : PySem.W.subIn K (.ref C) (.type "BaseException") = some true
  ty : PySem.W.typeIn K (.ref C) = some (.type "type")
theorem s_raise {x m : Str} {j : Nat} {p p2 p3 : Pos} {C : Addr} (hc : X.calm = true) (tk : Takes X W) (ok : ExcOk X.K x C) (hm : X.mg x = some (.ref C)) (hg : Gl X x) (hdb : (x == ("__debug__" : Str)) = false) :
    PS X (.Raise (some (.Call (.Name x p) [.Constant (.str m) j p2] [] p3)) none pos) (tS X.K W (exS cl (.raise x .nil))) := by
  obtain ⟨B, newId, initId, bmB, F, q⟩ := ok.own
  refine imp_PS (ps_raise hc tk (pmk_own F q hm ok.keep (raises_own ok.base ok.ty) hg hdb)) fun De σ H h => ?_
  obtain ⟨L, φ, M, lr, mh, p⟩ := h
  exact (show PRS X.K W φ H (.exc x .non L M) De from p) φ H σ (.ref C) none Ext.refl mh lr ⟨rfl, rfl, C, ok.ns, rfl⟩
end
end MP
/-! MiniPy 12: defs. -/
namespace MP
open PySem PySem.Spec PyProof.Rows L2
variable [TabC]

section
variable {K : PySem.W.Frag} {φ φ' : Ph} {H H' : Hp} {M M' : List D}
theorem Ext.tk (e : Ext φ H φ' H') (hl : φ.f.length = M.length) : Ext φ H (φ'.tk M.length) H' := by
  obtain ⟨t, e1⟩ := e.pre
  refine ⟨⟨[], ?_⟩, e.bar, fun b o h nt n => ?_⟩
  · show φ.f ++ [] = φ'.f.take M.length
    rw [← e1, ← hl, List.take_left', List.append_nil]
    rfl
  · obtain ⟨h1, h2⟩ := e.keep b o h nt n
    exact ⟨h1, fun z => h2 (List.mem_of_mem_take z)⟩
theorem clean_ok {E : XK} {d : D} {v : V} {Q : VK} (m : MH K φ H M) (e : Ext φ H φ' H') (m' : MH K φ' H' M') (r : Rep K φ' H' d v) (p : PR K (fun c d _ H => E c d H) [] φ H (clean M d M') fun d _ φ' H' => ∀ v, Rep K φ' H' d v → Q v H') : Q v H' := by
  unfold clean at p
  split at p
  · rename_i hc
    have hb : bels M.length (M'.take M.length) = true := by
      rw [Bool.or_eq_true] at hc
      rcases hc with hc | hc
      · rw [bqs_eq hc, ← m.len]
        exact m.bel
      · exact hc
    split at p
    · rename_i d' hd
      exact p _ H' (e.tk m.len) (m'.take hb) v (rep_frz m' r hd)
    · exact False.elim p
  · exact p _ H' e m' v r
theorem ends_ok {E : XK} {kp : Bool} {d : D} {v : V} {Q : VK} (m : MH K φ H M) (e : Ext φ H φ' H') (m' : MH K φ' H' M') (r : Rep K φ' H' d v) (p : PR K (fun c d _ H => E c d H) [] φ H (ends kp M d M') fun d _ φ' H' => ∀ v, Rep K φ' H' d v → Q v H') : Q v H' := by
  unfold ends at p
  split at p
  · exact p _ H' e m' v r
  · exact clean_ok m e m' r p
theorem endX_ok {E : XK} {c : Str} {x : D} {cls : Value} {dd : Option Addr} {G : D → List D → Ph → Hp → Prop} (m : MH K φ H M) (e : Ext φ H φ' H') (m' : MH K φ' H' M') (r : XRep K φ' H' c x cls dd) (p : PR K (fun c d _ H => E c d H) [] φ H (endX M c x M') G) : E cls dd H' := by
  unfold endX at p
  split at p
  · rename_i hc
    rw [Bool.and_eq_true, Bool.or_eq_true] at hc
    have hb : bels M.length (M'.take M.length) = true := by
      rcases hc.2 with hc | hc
      · rw [bqs_eq hc, ← m.len]
        exact m.bel
      · exact hc
    exact p _ H' cls dd (e.tk m.len) (m'.take hb) r
  · exact p _ H' cls dd e m' r
theorem fin_ok {kp : Bool} {E : XK} {Q : VK} {rs : RS} (m : MH K φ H M) (p : PR K (fun c d _ H => E c d H) [] φ H (fin kp M rs) fun d _ φ' H' => ∀ v, Rep K φ' H' d v → Q v H') :
    PRS K (fun c d _ H => E c d H) φ H rs { nx := fun _ H' => Q .non H', rt := Q } := by
  cases rs with
  | next L' M' => exact fun φ' H' σ' e m' l => ends_ok m e m' .non p
  | ret d M' => exact fun φ' H' v e m' r => ends_ok m e m' r p
  | brk L' M' => exact False.elim p
  | cont L' M' => exact False.elim p
  | exc c x L' M' => exact fun φ' H' σ' cls dd e m' l xr => endX_ok m e m' xr p
  | bad => exact p
theorem lr_start {N : List Str} {args : List D} {vs : List V} (r : Reps K φ H args vs) (hl : args.length ≤ N.length) : LR K φ H (args.map some ++ List.replicate (N.length - args.length) none) (L2.start N vs) := by
  have hv := r.length
  refine ⟨?_, fun i d h => ?_⟩
  · unfold L2.start
    simp [hv]
  · by_cases hi : i < args.length
    · rw [List.getElem?_append_left (by simpa using hi), List.getElem?_map] at h
      cases ha : args[i]? with
      | none => rw [ha] at h; cases h
      | some x =>
        rw [ha] at h
        cases h
        obtain ⟨v, h1, h2⟩ := r.get ha
        refine ⟨v, ?_, h2⟩
        unfold L2.start
        rw [List.getElem?_append_left (by rw [List.length_map, ← hv]; exact hi), List.getElem?_map, h1]
        rfl
    · rw [List.getElem?_append_right (by simpa using hi), List.getElem?_replicate] at h
      split at h <;> cases h
end
theorem fnG {P : Program} {w : World} {K : PySem.W.Frag} {mg : Str → Option Value} {base : Heap} {x : Str} {st : Stmt} {f : Addr} {fd : FuncData} {N ps : List Str} {k n fuel : Nat} {T : List FD} {kp : Bool} {mss : Ss} (F : Fun K x x st f fd) (S : FnScope N ps (defScope st)) (hT : T[n]? = some ⟨kp, ps.length, N.length, mss⟩)
    (hb : ∀ (cdv : Value) (A : Around) (outer : List Env) (s : Shared) (H : Hp) (E : XK), (∃ (oc : Value) (od : Option Addr) (kV doc pm : Value) (an : Option Addr) (ct : Value) (osl : Array (Option Value)), K.lookup f = some ⟨oc, od, .func (PySem.W.fnOf x x (defArgs st) (defBody st) (defScope st) .none kV doc pm an cdv ct), osl⟩) → Room k (A.deeper (envOfC x (defScope st) s.heap.objs.size f cdv)) →
      PSs (cxOf (L2.CX P w) P w K mg base N x (defScope st) f cdv A outer s H E) (defBody st) (tS K (fun c d _ H => E c d H) (exSs (clOf T fuel k) mss))) :
    FnOk P w K mg base (L2.CX P w) (k + 1) f fd ps (spG K (runF T fuel (k + 1) n)) := by
  have hpl : ps.length ≤ N.length := by have := congrArg List.length S.pre; rw [List.length_take] at this; omega
  obtain ⟨oc, od, kV, doc, pm, an, cdv, ct, osl, rfl, lk, hcd⟩ := F.ex
  refine fn_of lk hcd S (fun vs H Q E h => ?_) fun A outer s H vs Q E hr h => ⟨_, hb cdv A outer s H E ⟨oc, od, kV, doc, pm, an, ct, osl, lk⟩ hr, ?_⟩
  · obtain ⟨φ, M, args, m, r, p⟩ := h
    rw [runF_succ] at p
    unfold runB at p
    rw [hT] at p
    by_cases hl : args.length = ps.length
    · rw [← r.length]
      exact hl
    · replace p := show PR K (fun c d _ H => E c d H) [] φ H (if args.length = ps.length then fin kp M (exSs (clOf T fuel k) mss (args.map some ++ List.replicate (N.length - ps.length) none) M) else .bad) _ from p
      rw [if_neg hl] at p
      exact False.elim p
  · obtain ⟨φ, M, args, m, r, p⟩ := h
    rw [runF_succ] at p
    unfold runB at p
    rw [hT] at p
    by_cases hl : args.length = ps.length
    · replace p := show PR K (fun c d _ H => E c d H) [] φ H (if args.length = ps.length then fin kp M (exSs (clOf T fuel k) mss (args.map some ++ List.replicate (N.length - ps.length) none) M) else .bad) _ from p
      rw [if_pos hl] at p
      refine ⟨_, φ, M, ?_, m, fin_ok m p⟩
      rw [← hl]
      exact lr_start r (by rw [hl]; exact hpl)
    · replace p := show PR K (fun c d _ H => E c d H) [] φ H (if args.length = ps.length then fin kp M (exSs (clOf T fuel k) mss (args.map some ++ List.replicate (N.length - ps.length) none) M) else .bad) _ from p
      rw [if_neg hl] at p
      exact False.elim p
end MP
/-! MiniPy 12b: a def that calls what it got, its exceptions told. -/
namespace MP
open PySem PySem.Spec PyProof.Rows L2
abbrev SuiteR := Addr → Value → Option Addr → TS
/-- the clauses up to some one; those behind it are never asked -/
def wT (K : PySem.W.Frag) (De : Ends) : List (Value × SuiteR) → WX
  | [] => fun _ _ _ _ => False
  | (c, ts) :: r => fun cls d σ H => ∃ b, PySem.W.exmOne K cls c = some b ∧ (b = true → ∀ a, H a = none → ts a cls d De σ H) ∧ (b = false → wT K De r cls d σ H)
inductive HdT (X : Cx) : List ExceptHandler → List (Value × SuiteR) → Prop
  | rest {hds : List ExceptHandler} : HdT X hds []
  | cons {x : Str} {c : Value} {ts : SuiteR} {b₀ : Stmt} {bs : List Stmt} {np hp : Pos} {hds : List ExceptHandler} {l : List (Value × SuiteR)} (hc : Names X x c)
      (hsu : ∀ (a : Addr) (oe : Obj) (cls : Value) (d : Option Addr) (pn : List (Addr × Obj)), Zc cls d oe → (∃ vs, oe.data = .fields vs) → PSs (X.suite a ((a, oe) :: pn)) (b₀ :: bs) (ts a cls d)) (r : HdT X hds l) :
      HdT X (.ExceptHandler (some (.Name x np)) none (b₀ :: bs) hp :: hds) ((c, ts) :: l)
section
variable {X : Cx} {body : List Stmt} {h₀ : ExceptHandler} {hds : List ExceptHandler} {l : List (Value × SuiteR)} {pos : Pos} {tb : WX → TS}
theorem ps_try_T (hs : X.stack = X.env :: X.outer) (hf : X.env.frame = some X.env.locals)
    (hb : ∀ (W : WX) (pn : List (Addr × Obj)) (xe : Value → Shared → Prop), Takes (X.tr pn xe) W → PassesOwn (model X.prog X.w) X.A X.env xe → PSs (X.tr pn xe) body (tb W))
    (hh : HdT X (h₀ :: hds) l) : PS X (.Try body (h₀ :: hds) [] [] pos) (fun De σ H => tb (wT X.K De l) De σ H) := by
  refine ⟨fun pins s σ H De I h => ?_⟩
  have ok := I.ok
  have hfr : X.A.frames = some (X.env :: X.outer) := by
    rw [ok.frames, hs]
  refine wpAny_Try_except ?_
  have run := hb (wT X.K De l) (X.pn ++ pins) (fun e s₁ => wpAny (model X.prog X.w) X.A (noteFrame e X.env) (fun _ s₂ => wpAny (model X.prog X.w) X.A (setFlight e none) (fun _ s₃ => wpAny (model X.prog X.w) X.A (handleBy e X.env (h₀ :: hds)) (SP X pins De) X.xe s₃) X.xe s₂) X.xe s₁)
  refine wpAny_mono ((run (fun u s' xx => ?_) PassesOwn.looking).run [] s σ H De (I.toTry _) h) (fun f s1 q => ?_) (fun e s1 he => he)
  · obtain ⟨a, B, sI, pins', σ', H', cls, d, rfl, J', nb, up, sky, na, os, ag, w⟩ := xx
    have J : Inv X pins σ' H' sI := J'.ofTry ok
    have sk : Sky B (X.env :: X.outer) a (Zc cls d) X.env.locals s'.heap := by
      rw [← hs]
      exact sky
    show wpAny (model X.prog X.w) X.A (noteFrame (.ref a) X.env) _ _ _
    refine Sky.land Zc.steady hfr hf sk fun h3 fl3 up3 => ?_
    have J3 : Inv X pins σ' H' { s' with heap := h3 } := J.landed nb fl3.1 (up.trans up3) os ag
    obtain ⟨oe3, vs3, he3, hz3, hd3⟩ := fl3.there
    have nfr : a ∉ frs (X.env :: X.outer) := fun hm => by
      obtain ⟨_, o', e', hnf⟩ := fl3.2.2.1.mem hm
      rw [he3] at e'
      cases e'
      exact hnf _ hd3
    have nL : a ≠ X.env.locals := fun z => nfr (List.mem_filterMap.mpr ⟨X.env, List.mem_cons_self, by rw [hf, z]⟩)
    have nF : a ∉ X.fs := fun hm => by
      obtain ⟨e, he, q⟩ := List.mem_filterMap.mp hm
      exact nfr (List.mem_filterMap.mpr ⟨e, List.mem_cons_of_mem _ he, q⟩)
    have S3 := J3.suite he3 hd3 na nL nF
    have go : ∀ {hds' : List ExceptHandler} {l' : List (Value × SuiteR)}, HdT X hds' l' → wT X.K De l' cls d σ' H' → wpAny (model X.prog X.w) X.A (handleBy (.ref a) X.env hds') (SP X pins De) X.xe { s' with heap := h3 } := by
      intro hds' l' hk
      induction hk with
      | rest => exact fun z => False.elim z
      | @cons x c ts b₀ bs np hp hds2 l2 hc hsu r ih =>
        intro w
        obtain ⟨b, hb1, hyes, hno⟩ := w
        refine wpAny_handleBy_cons (codeAny_handlers_test ?_) (fun q => by cases q)
        have LT : PySem.W.Looks (model X.prog X.w) h3 (typeOf (.ref a)) cls := fun A Q E s k q => wpAny_typeOf_ref (k _ _ he3) (by
          rw [hz3.1]
          exact q)
        have LM := PySem.W.exm_one (M := model X.prog X.w) (J3.kIn) LT hb1
        have look : ∀ {Q E : Value → Shared → Prop}, Q c { s' with heap := h3 } → wpAny (model X.prog X.w) (X.A.mark (some (.ref a))) (eval (.Name x np) X.env) Q E { s' with heap := h3 } := fun {Q E} q => by
          obtain ⟨hg, hdbg, hm | ⟨hm, hv, hnn⟩⟩ := hc
          · exact ld_glob (X := X.suite a ((a, oe3) :: (X.pn ++ pins))) S3 hg hm q hdbg
          · exact ld_blt (X := X.suite a ((a, oe3) :: (X.pn ++ pins))) S3 hg hm hv q hnn hdbg
        refine look (LM.here ?_)
        cases b with
        | false =>
          show wpAny _ X.A (handleBy (.ref a) X.env hds2) _ _ _
          exact ih (hno rfl)
        | true =>
          refine codeAny_handlers_suite (HandSPX.lands_againZ fl3 fun h4 fl4 up4 => ?_)
          have J4 : Inv X pins σ' H' { s' with heap := h4 } := J.landed nb fl4.1 ((up.trans up3).trans up4) os ag
          obtain ⟨oe4, vs4, he4, hz4, hd4⟩ := fl4.there
          have S4 := J4.suite he4 hd4 na nL nF
          refine wpAny_mono ((hsu a oe4 cls d (X.pn ++ pins) hz4 ⟨_, hd4⟩).run [] _ _ H' _ S4 (hyes rfl a na)) (fun f s6 q6 => ?_) (fun _ _ z => False.elim z)
          cases f with
          | ret u =>
            obtain ⟨v6, σ6, H6, S6, r6, z6⟩ := q6
            exact ⟨_, _, _, S6.unsuite ok, r6, z6⟩
          | next =>
            obtain ⟨σ6, H6, S6, z6⟩ := q6
            exact ⟨_, _, S6.unsuite ok, z6⟩
          | brk =>
            obtain ⟨σ6, H6, S6, z6⟩ := q6
            exact ⟨_, _, S6.unsuite ok, z6⟩
          | cont =>
            obtain ⟨σ6, H6, S6, z6⟩ := q6
            exact ⟨_, _, S6.unsuite ok, z6⟩
    exact go hh w
  · cases f with
    | ret u =>
      obtain ⟨v, σ', H', J', r, z⟩ := q
      exact ⟨v, σ', H', J'.ofTry ok, r, z⟩
    | next =>
      obtain ⟨σ', H', J', z⟩ := q
      exact wpAny_execs_nil ⟨σ', H', J'.ofTry ok, z⟩
    | brk =>
      obtain ⟨σ', H', J', z⟩ := q
      exact ⟨σ', H', J'.ofTry ok, z⟩
    | cont =>
      obtain ⟨σ', H', J', z⟩ := q
      exact ⟨σ', H', J'.ofTry ok, z⟩
end
end MP
/-! MiniPy 12c: try: return (tag, call()); except C: return (texts); .. -/
namespace MP
open PySem PySem.Spec PyProof.Rows L2
variable [TabC]
/-- written texts as an argument list -/
def strEs : List Expr → List Str → Prop
  | [], [] => True
  | .Constant (.str x) _ _ :: es, y :: ys => x = y ∧ strEs es ys
  | _, _ => False
theorem pa_strs {X : Cx} : ∀ {es : List Expr} {rs : List Str}, strEs es rs → PA X es (fun σ H Q => Q (rs.map V.str) H)
  | [], [], _ => imp_PA pa_nil fun σ H Q h => h
  | [], _ :: _, h => h.elim
  | e :: es, rs, h => by
    cases e <;> first | (cases rs <;> exact h.elim) | skip
    rename_i k j p
    cases k <;> first | (cases rs <;> exact h.elim) | skip
    rename_i x
    cases rs with
    | nil => exact h.elim
    | cons y ys =>
      obtain ⟨rfl, h2⟩ := h
      exact imp_PA (pa_cons pe_str (pa_strs h2)) fun σ H Q h => h
/-- what the clauses tell -/
def metW (K : PySem.W.Frag) (Q : VK) : List (Value × List Str) → Value → Hp → Prop
  | [], _, _ => False
  | (c, rs) :: r, cls, H => ∃ b, PySem.W.exmOne K cls c = some b ∧ (b = true → ∀ t, H t = none → Q (.ref t) (upd H t (.tup (rs.map V.str)))) ∧ (b = false → metW K Q r cls H)
def TTmet (K : PySem.W.Frag) (tag : Str) (hs : List (Value × List Str)) : (XK → Hp → VK → Prop) → Hp → VK → Prop := fun tl H Q =>
  tl (fun cls _ H' => metW K Q hs cls H') H fun v H1 => [V.str tag, v].length ≤ sizeLine ∧ ∀ t, H1 t = none → Q (.ref t) (upd H1 t (.tup [.str tag, v]))
inductive HdM (mg : Str → Option Value) (sg : Scope) : List ExceptHandler → List (Value × List Str) → Prop
  | rest {hds : List ExceptHandler} : HdM mg sg hds []
  | cons {x : Str} {C : Addr} {es : List Expr} {rs : List Str} {kt : Nat} {np pt pr hp : Pos} {hds : List ExceptHandler} {l : List (Value × List Str)} (hg : sg.names.lookup x = some .globalImplicit) (hm : mg x = some (.ref C)) (hd : (x == ("__debug__" : Str)) = false) (he : strEs es rs) (hl : rs.length ≤ 1000) (r : HdM mg sg hds l) :
      HdM mg sg (.ExceptHandler (some (.Name x np)) none [.Return (some (.Tuple es kt pt)) pr] hp :: hds) ((.ref C, rs) :: l)
abbrev suiteM (rs : List Str) : SuiteR := fun _ _ _ De _ H => ∀ t, H t = none → De.rt (.ref t) (upd H t (.tup (rs.map V.str)))
theorem hdT_of {X : Cx} {hds : List ExceptHandler} {hs : List (Value × List Str)} (h : HdM X.mg X.env.scope hds hs) : HdT X hds (hs.map fun p => (p.1, suiteM p.2)) := by
  induction h with
  | rest => exact .rest
  | @cons x C es rs kt np pt pr hp hds l hg hm hd he hl r ih =>
    refine .cons ⟨hg, hd, .inl hm⟩ (fun a oe cls d pn _ _ => ?_) ih
    refine imp_PSs (pss_one (ps_ret (pe_tup (pa_strs he)))) fun De σ H q => ?_
    exact ⟨by
      rw [List.length_map]
      exact Nat.le_trans hl (by decide), q⟩
theorem wT_of {K : PySem.W.Frag} {De : Ends} {σ : L2.St} {H : Hp} {cls : Value} {d : Option Addr} : ∀ {hs : List (Value × List Str)}, metW K De.rt hs cls H → wT K De (hs.map fun p => (p.1, suiteM p.2)) cls d σ H
  | [], h => h
  | (c, rs) :: r, h => by
    obtain ⟨b, h1, h2, h3⟩ := h
    exact ⟨b, h1, fun hb a _ => h2 hb, fun hb => wT_of (h3 hb)⟩
theorem met_gives {X : Cx} {Ng : List Str} {x a q tag : Str} {sg : Scope} {g : Addr} {cdg : Value} {j kt : Nat} {p1 p2 pc pt pr pos : Pos} {h₀ : ExceptHandler} {hds : List ExceptHandler} {hs : List (Value × List Str)} (hm : HdM X.mg sg (h₀ :: hds) hs) (h0 : ∀ f : Addr, (L2.start Ng [V.ref f])[0]? = some (some (V.ref f))) :
    LamX.GivesTo X Ng x sg g cdg [.Try [.Return (some (.Tuple [.Constant (.str tag) j pc, .Call (.Name a p1) [] [] p2] kt pt)) pr] (h₀ :: hds) [] [] pos] a q (TTmet X.K tag hs) := by
  intro f c' s H Q tl act hc h
  refine ⟨_, pss_one (ps_try_T (X := (cxOf C8.CX0 X.prog X.w X.K X.mg X.base Ng x sg g cdg X.A X.stack s H C8.E0).nox)
      (tb := fun W De σ H => ∃ Ech : XK, (∀ cls d σ' H', Ech cls d H' → W cls d σ' H') ∧ σ[0]? = some (some (.ref f)) ∧ H c' = some (LamX.CodeO c' q) ∧ tl Ech H fun v H1 => [V.str tag, v].length ≤ sizeLine ∧ ∀ t, H1 t = none → De.rt (.ref t) (upd H1 t (.tup [.str tag, v])))
      rfl rfl (fun W pn xe tk _ => ?_) (hdT_of hm)), ?_⟩
  · refine ⟨fun pins s' σ H' De I h' => ?_⟩
    obtain ⟨Ech, hW, h1, h2, h3⟩ := h'
    have hp := act W pn xe Ech p1 p2 tk hW
    have hq := pss_one (ps_ret (pos := pr) (pe_tup (x1 := kt) (pos := pt) (pa_cons (pe_str (x := tag) (pos := pc) (j := j)) (pa_cons hp pa_nil))))
    refine hq.run pins s' σ H' De I ?_
    exact ⟨h1, h2, h3⟩
  · exact ⟨fun cls _ H' => metW X.K Q hs cls H', fun cls d σ' H' z => wT_of z, h0 f, hc, h⟩
inductive HsOk (K : PySem.W.Frag) : List HdR → List (Value × List Str) → Prop
  | nil : HsOk K [] []
  | cons {h : HdR} {cv : Value} {hs : List HdR} {l : List (Value × List Str)} (hx : ∀ c b C, h.xm.lookup c = some b → PySem.W.nsIn K mainGlobals c = some (some (.ref C)) → PySem.W.exmOne K (.ref C) cv = some b) (r : HsOk K hs l) : HsOk K (h :: hs) ((cv, h.ret) :: l)
theorem reps_strs {K : PySem.W.Frag} {φ : Ph} {H : Hp} : ∀ rs : List Str, Reps K φ H (rs.map D.str) (rs.map V.str)
  | [] => .nil
  | x :: r => .cons (.str x) (reps_strs r)
theorem metW_of {K : PySem.W.Frag} {φ : Ph} {H : Hp} {M : List D} {Q : VK} {c : Str} {C : Addr} (hn : PySem.W.nsIn K mainGlobals c = some (some (.ref C))) (m : MH K φ H M) : ∀ {hs : List HdR} {l : List (Value × List Str)} {rs : List Str}, HsOk K hs l → metH hs c = some rs →
    (∀ φ' H' v, Ext φ H φ' H' → MH K φ' H' M → Rep K φ' H' (.tup (rs.map .str)) v → Q v H') → metW K Q l (.ref C) H
  | [], _, _, h, e, _ => by cases e
  | h :: hs, _, rs, ok, e, q => by
    cases ok with
    | cons hx r =>
      unfold metH at e
      cases hb : h.xm.lookup c with
      | none => rw [hb] at e; cases e
      | some b =>
        rw [hb] at e
        refine ⟨b, hx c b C hb hn, fun ht t nt => ?_, fun hf => ?_⟩
        · subst ht
          cases e
          exact end_tup m nt (reps_strs _) q
        · subst hf
          exact metW_of hn m r e q
theorem ext_n {K : PySem.W.Frag} {φ : Ph} {H H1 : Hp} {M : List D} (m : MH K φ H M) (e : LamX.ExtN H H1) (t : LamX.Tabs TabC.T H1) : Ext φ H φ H1 ∧ MH K φ H1 M := by
  have ex : Ext φ H φ H1 := ⟨⟨[], by simp⟩, rfl, fun b o h nt n => ⟨e b o h nt, n⟩⟩
  refine ⟨ex, m.nd, m.len, fun b hb => ?_, t, fun n a d h1 h2 => ?_⟩
  · obtain ⟨n1, u, hu, hx⟩ := m.bar b hb
    exact ⟨n1, u, e b u hu hx.1, hx⟩
  · obtain ⟨u, hu, hx⟩ := (m.at_ n a d h1 h2).there
    exact (m.at_ n a d h1 h2).ext ex ((e a u hu hx.1).trans hu.symm)
theorem met_use {K : PySem.W.Frag} {W : WX} {cl : Cl} {tag : Str} {hs : List HdR} {l : List (Value × List Str)} {mb : E} (ok : HsOk K hs l) (hhi : cl.hi = true) {σ : L2.St} {H : Hp} {Q : VK} (h : tE K W (evE cl (.met tag hs mb)) σ H Q) :
    LamX.tLam TabC.T (TTmet K tag l) (fun E => tE K (fun c d _ H => E c d H) (evE cl.lower mb)) σ H Q := by
  obtain ⟨L, φ, M, lr, mh, p⟩ := h
  replace p := show PR K W σ φ H (if cl.hi then metR tag hs (evE cl.lower mb L M) else .bad) _ from p
  rw [if_pos hhi] at p
  refine ⟨mh.tab, fun H1 e t => ?_⟩
  obtain ⟨ex, mh1⟩ := ext_n mh e t
  refine ⟨L, φ, M, lr.ext ex, mh1, ?_⟩
  replace p := show PR K W σ φ H (metR tag hs (evE cl.lower mb L M)) _ from p
  cases hr : evE cl.lower mb L M with
  | bad => rw [hr] at p; exact False.elim p
  | ok d M' =>
    rw [hr] at p
    intro φ' H' e' m' v r
    refine ⟨by
      show 2 ≤ sizeLine
      decide, fun t nt => ?_⟩
    exact end_tup m' nt (.cons (.str tag) (.cons r .nil)) fun φ2 H2 u e2 m2 r2 => p φ2 H2 ((ex.trans e').trans e2) m2 u r2
  | exc c x M' =>
    rw [hr] at p
    intro φ' H' cls dd e' m' xr
    obtain ⟨rfl, rfl, C, hn, rfl⟩ := xr
    cases hm : metH hs c with
    | none =>
      rw [show metR tag hs (.exc c .non M') = .bad by
        show (match metH hs c with | some rs => R.ok (D.tup (rs.map .str)) M' | none => .bad) = _
        rw [hm]] at p
      exact False.elim p
    | some rs =>
      rw [show metR tag hs (.exc c .non M') = .ok (.tup (rs.map .str)) M' by
        show (match metH hs c with | some rs => R.ok (D.tup (rs.map .str)) M' | none => .bad) = _
        rw [hm]] at p
      exact metW_of hn m' ok hm fun φ2 H2 v e2 m2 r2 => p φ2 H2 ((ex.trans e').trans e2) m2 v r2
/-- a def that calls what it got, by its text -/
structure MetI where
  a : Str
  tag : Str
  hs : List HdR
structure MetOk (K : PySem.W.Frag) (mg : Str → Option Value) (x : Str) (mi : MetI) : Prop where
  ex : ∃ (g : Addr) (st : Stmt) (oc dV kV doc pm cdv ct : Value) (an od : Option Addr) (osl : Array (Option Value)) (Ng : List Str) (j kt : Nat) (p1 p2 pc pt pr pos : Pos) (h₀ : ExceptHandler) (hds : List ExceptHandler) (l : List (Value × List Str)),
    mg x = some (.ref g) ∧ PySem.W.keepIn K (.ref g) = true ∧ K.lookup g = some ⟨oc, od, .func (PySem.W.fnOf x x (defArgs st) (defBody st) (defScope st) dV kV doc pm an cdv ct), osl⟩ ∧ PySem.W.codeIn K cdv x = true ∧
    L2.Binds K (PySem.W.fnOf x x (defArgs st) (defBody st) (defScope st) dV kV doc pm an cdv ct) [mi.a] [] ∧ FnScope Ng [mi.a] (defScope st) ∧ Ng[0]? = some mi.a ∧ Vis (defScope st) mi.a ∧
    defBody st = [.Try [.Return (some (.Tuple [.Constant (.str mi.tag) j pc, .Call (.Name mi.a p1) [] [] p2] kt pt)) pr] (h₀ :: hds) [] [] pos] ∧ HdM mg (defScope st) (h₀ :: hds) l ∧ HsOk K mi.hs l ∧
    (mi.a == ("__debug__" : Str)) = false ∧ (mi.a == ("__classdict__" : Str)) = false
/-- the context of a def that makes lambdas -/
structure LamOk (X : Cx) : Prop where
  ex : ∃ c P, X.env.code = .ref c ∧ LamX.TabB X.base X.mg c P ∧ (P, X.env.qual ++ "<lambda>") ∈ TabC.T ∧ ∀ p ∈ TabC.T, p.1 = P → p.2 = X.env.qual ++ "<lambda>"
abbrev noArgs : Arguments := { posonlyargs := [], args := [], vararg := none, kwonlyargs := [], kw_defaults := [], kwarg := none, defaults := [] }
theorem me_met {X : Cx} {W : WX} {cl : Cl} {x : Str} {mi : MetI} {k : Nat} {body : Expr} {scope : Scope} {mb : E} {p lpos pos : Pos} (hc : cl.hi = true → Room (k + 2) X.A ∧ ∀ (A : Around) (outer : List Env) (s : Shared) (H : Hp) (Ex : XK) (f c' : Addr), Room k (A.deeper (LamX.lamEnv X scope s.heap.objs.size f c')) → PE (LamX.lamCx X A outer s H Ex scope f c') body (tE X.K (fun c d _ H => Ex c d H) (evE cl.lower mb)))
    (mo : MetOk X.K X.mg x mi) (lo : LamOk X) (hg : Gl X x) (hdb : (x == ("__debug__" : Str)) = false) (L : LamX.LamS X.env.scope scope) : PE X (.Call (.Name x p) [.Lambda noArgs body scope lpos] [] pos) (tE X.K W (evE cl (.met mi.tag mi.hs mb))) := by
  cases hh : cl.hi with
  | false =>
    refine ⟨fun pins s σ H Q I h => ?_⟩
    obtain ⟨L, φ, M, lr, mh, p⟩ := h
    replace p := show PR X.K W σ φ H (if cl.hi then metR mi.tag mi.hs (evE cl.lower mb L M) else .bad) (fun d _ φ' H' => ∀ v, Rep X.K φ' H' d v → Q v H') from p
    rw [hh] at p
    exact False.elim p
  | true =>
    obtain ⟨hr, hbody⟩ := hc hh
    obtain ⟨g, st, oc, dV, kV, doc, pm, cdv, ct, an, od, osl, Ng, j, kt, p1, p2, pc, pt, pr, pos', h₀, hds, l, m1, m2, m3, m4, m5, m6, m7, m8, m9, m10, m11, m12, m13⟩ := mo.ex
    obtain ⟨c, P, l1, l2, l3, l4⟩ := lo.ex
    have h0 : ∀ f : Addr, (L2.start Ng [V.ref f])[0]? = some (some (V.ref f)) := fun f => by
      unfold L2.start
      rfl
    have hG : LamX.GivesTo X Ng x (defScope st) g cdv (defBody st) mi.a (X.env.qual ++ "<lambda>") (TTmet X.K mi.tag l) := by
      rw [m9]
      exact met_gives m10 h0
    exact imp_PE (LamX.pe_lamcall (T := TabC.T) (TT := TTmet X.K mi.tag l) (t := fun Ex => tE X.K (fun c d _ H => Ex c d H) (evE cl.lower mb)) hg m1 m2 m3 m4 m5 m6 m7 m8 hG l2 l1 l3 l4 hr L rfl (fun _ _ _ _ _ => rfl) hbody hdb m12 m13) fun σ H Q h => met_use m11 hh h
end MP
/-! MiniPy 12d: sorted(.., key=lambda x: ..). -/
namespace MP
open PySem PySem.Spec PyProof.Rows L2
variable [TabC]
section
variable {prog : Program} {w : World} {A : Around} {E : Value → Shared → Prop}
/-- the keys are asked one by one, under any invariant -/
theorem key_rest {s : Shared} {a kS : Addr} {vs : List Value} {e1 : Nat} {P : PySem.Fin → Shared → Prop} {f : Value} (hka : kS ≠ a) (hZ : vs.length ≤ sizeLine) (Ik : Nat → Array Value → Shared → Prop)
    (hS : ∀ i kA s', Ik i kA s' → kA.size = i ∧ (∃ e, s'.heap.get? kS = some (seqObj "list" kA e)) ∧ s'.heap.get? a = some (seqObj "list" #[] e1)) (h0 : Ik 0 #[] s)
    (turn : ∀ i v kA s', vs[i]? = some v → Ik i kA s' → wpAny (model prog w) A (call f [v]) (fun k s2 => (∃ e, s2.heap.get? kS = some (seqObj "list" kA e)) ∧
      ∀ h' e, h'.get? kS = some (seqObj "list" (kA.push k) e) → (∀ b o, b ≠ kS → s2.heap.get? b = some o → h'.get? b = some o) → Ik (i + 1) (kA.push k) { s2 with heap := h' }) (fun _ _ => False) s')
    (fin : ∀ kA s', Ik vs.length kA s' → ∃ κ, PySem.W.SortsAt prog w A s' κ kA.toList ∧ ∀ h' tk c, (∀ b o, b ≠ a → b ≠ kS → s'.heap.get? b = some o → h'.get? b = some o) →
      h'.get? a = some (seqObj "list" (PySem.W.sortVals κ false kA.toList vs).toArray c) → P (.done (.ret .none)) { s' with heap := h', toks := tk }) :
    wpAny (model prog w) A (ksk_rest a f false vs.toArray e1 (.ref kS)) P E s := by
  unfold ksk_rest
  refine wpAny_bind (wpAny_rule ?_)
  first
    | rw [List.forIn_toArray]
    | (rw [← Array.forIn_toList]; simp only [List.toList_toArray])
    | rw [← Array.forIn_toList]
  refine wpAny_bind (ksk_fold (fun i s' => ∃ kA, Ik i kA s') vs 0 s ⟨#[], h0⟩ ?step ?done)
  case step =>
    rintro j x s' hx ⟨kA, hk⟩
    simp only [Nat.zero_add] at hk ⊢
    obtain ⟨z1, ⟨ep, z2⟩, z3⟩ := hS _ _ _ hk
    have hj : j < vs.length := (List.getElem?_eq_some_iff.mp hx).1
    have hz : kA.size ≤ sizeLine := by omega
    refine wpAny_bind (wpAny_attempt (wpAny_mono (turn j x kA s' hx hk) (fun k s2 q => ?_) fun _ _ hF => hF.elim))
    obtain ⟨⟨e2, n2⟩, q⟩ := q
    try dsimp only
    have sb := Heap.SameBut.update s2.heap kS (Obj.mapSeq (·.push k))
    obtain ⟨c2, hc2⟩ : ∃ c2, (s2.heap.update kS (Obj.mapSeq (·.push k))).get? kS = some (seqObj "list" (kA.push k) c2) := ⟨_, get?_update_seq n2 (·.push k)⟩
    refine wpAny_bind (listUpdate_at n2 rfl ?_ hz (Nat.le_trans (Nat.le_of_eq (Array.size_push ..)) (Nat.succ_le_succ hz)))
    exact wpAny_pure ⟨rfl, _, q _ _ hc2 fun b o hb e => (sb.2 b hb).trans e⟩
  case done =>
    rintro s' ⟨kA, hk⟩
    rw [Nat.zero_add] at hk
    obtain ⟨z1, ⟨ep, z2⟩, z3⟩ := hS _ _ _ hk
    obtain ⟨κ, hκ, q⟩ := fin kA s' hk
    try dsimp only
    refine wpAny_bind (listItems_at z2 rfl ?_)
    refine PySem.W.keyH_end (κ := κ) (h₁ := PySem.W.hideAll s'.heap [kS]) (fun b o _ e => PySem.W.of_hideAll [kS] e) (PySem.W.hideAll_none [kS] List.mem_cons_self) z2 z3 hka hκ z1 hZ fun h3 tk3 c k3 n3 => q h3 tk3 c (fun b o hb hb2 e => k3 b o hb ?_) n3
    exact PySem.W.hideAll_get [kS] e (by simpa using hb2)
theorem key_tree {s : Shared} {a : Addr} {vs : List Value} {n : Nat} {P : PySem.Fin → Shared → Prop} {f : Value} (ho : s.heap.get? a = some (seqObj "list" vs.toArray n)) (hZ : vs.length ≤ sizeLine)
    (h : ∀ kS e1 h', s.heap.objs.size ≤ kS → (∀ b o, b ≠ a → s.heap.get? b = some o → h'.get? b = some o) → h'.get? a = some (seqObj "list" #[] e1) → h'.get? kS = some (seqObj "list" #[] 0) →
      wpAny (model prog w) A (ksk_rest a f false vs.toArray e1 (.ref kS)) P E { s with heap := h' }) :
    wpAny (model prog w) A (ksk_tree a f false) P E s := by
  have ha : a < s.heap.objs.size := Heap.lt_size ho
  obtain ⟨e1, ho1⟩ : ∃ e1, (s.heap.update a (Obj.mapSeq fun _ => (#[] : Array Value))).get? a = some (seqObj "list" #[] e1) := ⟨_, get?_update_seq ho fun _ => #[]⟩
  have hkS : ((s.heap.update a (Obj.mapSeq fun _ => (#[] : Array Value))).push (seqObj "tuple" vs.toArray 0)).objs.size = s.heap.objs.size + 1 := by rw [size_push', Heap.size_update]
  unfold ksk_tree
  refine wpAny_bind (listItems_at ho rfl ?_)
  refine wpAny_bind (listUpdate_at ho rfl ?_ (by rw [List.size_toArray]; exact hZ) (Nat.zero_le _))
  refine wpAny_bind (seqEpoch_at ho1 rfl ?_)
  refine wpAny_bind (wpAny_newTuple ?_ (by show vs.length ≤ _; exact hZ))
  refine wpAny_bind (wpAny_newList ?_ (Nat.zero_le _))
  refine wpAny_holding ?_
  refine h _ e1 _ (by rw [hkS]; exact Nat.le_succ _) (fun b o hb e => PySem.W.sortingHeap_old hb e) (Heap.get?_push_of_some _ (Heap.get?_push_of_some _ ho1)) (Heap.get?_push_size _ rfl)
/-- sorted(x, key=f): x is gathered, its items are sorted in a new list -/
theorem sorted_tree {s : Shared} {arg f : Value} {Q : Value → Shared → Prop} {kw : List (Str × Value)} (ha1 : argsOk "sorted" ⟨[arg], kw⟩) (ha2 : ∀ x, argsOk "list.sort" ⟨[.ref x], kw⟩) (ht : ∀ x, Builtin.«list.sort» ⟨[.ref x], kw⟩ = ksk_tree x f false)
    (hc : ∀ Q' : List Value → Shared → Prop, (∀ (vs : List Value) (h' : Heap) (tk : Nat), vs.length ≤ sizeLine → (∀ b o, s.heap.get? b = some o → h'.get? b = some o) →
        (∀ E', wpAny (model prog w) A.in1.in1 (ksk_tree h'.objs.size f false) (fun fn s' => fn = .done (.ret .none) ∧ Q (.ref h'.objs.size) s') E' { s with heap := h'.push (seqObj "list" vs.toArray 0), toks := tk }) → Q' vs { s with heap := h', toks := tk }) →
      wpAny (model prog w) A.in1 (collect arg) Q' E s) :
    wpAny (model prog w) A (call (.builtin "sorted") [arg] kw) Q E s := by
  refine call_function_entry_kw kind_sorted plain_sorted entry_sorted ha1 ?_
  unfold Builtin.«sorted»
  refine wpAny_bind (m := checkCount "sorted" 1 1 _) (wpAny_pure ?_)
  refine wpAny_bind (hc _ fun vs h' tk hz kp go => ?_)
  refine wpAny_bind (wpAny_newList ?_ hz)
  refine wpAny_bind (wpAny_holding (wpAny_call_entry_kw slot_list_sort ⟨_, Heap.get?_push_size _ rfl, rfl⟩ entry_list_sort ?body (ha2 _)))
  case body =>
    rw [ht]
    refine wpAny_mono (go _) (fun fn s' hf => ?_) fun _ _ e => e
    obtain ⟨rfl, hq⟩ := hf
    exact ⟨_, rfl, wpAny_pure ⟨_, rfl, hq⟩⟩
end
end MP
/-! MiniPy 12e: a lambda with one parameter, called. -/
namespace MP
open PySem PySem.Spec PyProof.Rows L2
variable [TabC]
/-- one parameter; else captured names and globals -/
structure LamS1 (sc scope : Scope) (p : Str) : Prop where
  kind : scope.kind = .function
  co : scope.isCoroutine = false
  gen : scope.isGenerator = false
  own : ∀ y ∈ scope.names, (y.2 = .local → y.1 = p) ∧ y.2 ≠ .cell
  par : scope.names.lookup p = some .local
  free : ∀ y ∈ scope.names, y.2 = .free → sc.names.lookup y.1 = some .cell ∨ sc.names.lookup y.1 = some .free
def lamS1B (sc scope : Scope) (p : Str) : Bool :=
  decide (scope.kind = .function) && (!scope.isCoroutine && (!scope.isGenerator && (decide (scope.names.lookup p = some .local) && scope.names.all fun y => (!decide (y.2 = .local) || decide (y.1 = p)) && (!decide (y.2 = .cell) && (!decide (y.2 = .free) || (decide (sc.names.lookup y.1 = some .cell) || decide (sc.names.lookup y.1 = some .free)))))))
theorem lamS1_by {sc scope : Scope} {p : Str} (h : lamS1B sc scope p = true) : LamS1 sc scope p := by
  unfold lamS1B at h
  simp only [Bool.and_eq_true, Bool.or_eq_true, Bool.not_eq_true', decide_eq_true_eq, decide_eq_false_iff_not, List.all_eq_true] at h
  obtain ⟨h1, h2, h3, h4, h5⟩ := h
  refine ⟨h1, h2, h3, fun y hy => ⟨fun e => ?_, (h5 y hy).2.1⟩, h4, fun y hy e => ?_⟩
  · rcases (h5 y hy).1 with z | z
    · exact absurd e z
    · exact z
  · rcases (h5 y hy).2.2 with z | z
    · exact absurd e z
    · exact z
section
variable {X : Cx} {pins : List (Addr × Obj)} {σ : L2.St} {H : Hp} {s : Shared}
theorem LamS1.has {scope : Scope} {p : Str} (L : LamS1 X.env.scope scope p) (ok : X.Ok) : ∀ y ∈ scope.names, y.2 = .free → ∃ c, X.env.cells.lookup y.1 = some c := fun y hy e => by
  rcases L.free y hy e with k | k
  · exact ok.has _ (.inl k)
  · exact ok.has _ (.inr k)
/-- the start of the lambda's frame -/
theorem lam_start1 {A : Around} {outer : List Env} {Ex : XK} {scope : Scope} {p : Str} {f c' : Addr} {h₁ : Heap} {tk i : Nat} {u : Value} {v : V} (I : Inv X pins σ H s) (L : LamS1 X.env.scope scope p) (e0 : Env0 X.prog X.w X.K X.mg X.base A outer s H) (hd : A.handled = none)
    (hN : X.N.Nodup) (hi : X.N[i]? = some p) (r : RelV v u) (hns : h₁.Ns s.heap.objs.size fun y => [(p, u)].reverse.lookup y) (kp : ∀ b o, s.heap.get? b = some o → h₁.get? b = some o) :
    Inv (LamX.lamCx X A outer s H Ex scope f c') [] (σ.set i (some v)) H { s with heap := h₁, toks := tk } := by
  have hfree := L.has I.ok
  have cm : ∀ {y c}, (cloFrom X.env.cells scope.names []).lookup y = some c → X.env.cells.lookup y = some c := fun {y c} e => by
    rcases cloFrom_mem (PySem.mem_of_lookup e) with hm | ⟨h1, h2⟩
    · cases hm
    · obtain ⟨c1, hc⟩ := hfree _ h1 rfl
      replace hc : X.env.cells.lookup y = some c1 := hc
      have e2 : c = c1 := by
        rw [h2, hc] <;> rfl
      rw [e2]
      exact hc
  have look : ∀ {y}, scope.names.lookup y = some .free → ∃ c, (cloFrom X.env.cells scope.names []).lookup y = some c := fun {y} hl =>
    mem_lookup (cloFrom_has (cells := X.env.cells) (acc := []) (PySem.mem_of_lookup hl))
  have cellK : ∀ {c : Addr} {v : Option Value}, s.heap.IsCell c v → h₁.IsCell c v := fun {c v} ⟨o, ho, hd⟩ => ⟨o, kp _ _ ho, hd⟩
  have noA : ∀ b : Addr, b ∉ (LamX.lamCx X A outer s H Ex scope f c').ex := fun b z => absurd (show b ∈ ([] : List Addr) from z) (by simp)
  refine ⟨⟨e0.mod, L.kind, rfl, rfl, Nat.le_refl _, fun y z c e1 e2 => I.ok.inj y z c (cm e1) (cm e2), fun y hy => ?_, fun y c z _ => ?_, fun _ => hd, Around.frames_deeper e0.frames, .inr ⟨rfl, rfl⟩, fun b z => absurd z (noA b), e0.bs, e0.bsz, fun b _ _ => noA b,
      fun b z => absurd z (noA b), e0.funs, e0.frf⟩, rfl, e0.bare, Un.kept kp, ⟨_, hns, fun j y v' e1 e2 e3 => ?_⟩, fun y c e => ?_, e0.hok.fresh (Nat.le_refl _), fun y c e => ?_, fun q hq => absurd (show q ∈ ([] : List (Addr × Obj)) ++ [] from hq) (by simp), e0.hok.kept kp, ?_⟩
  · replace hy : scope.names.lookup y = some .cell ∨ scope.names.lookup y = some .free := hy
    rcases hy with hy | hy
    · exact absurd rfl (L.own _ (PySem.mem_of_lookup hy)).2
    · exact look hy
  · replace z : false = true := z
    cases z
  · replace e3 : Vis scope y := e3
    replace e1 : X.N[j]? = some y := e1
    by_cases hy : y = p
    · subst hy
      have hj : j = i := L2.nodup_ix hN e1 hi
      subst hj
      have hl : j < σ.length := by rw [I.len]; exact (List.getElem?_eq_some_iff.mp hi).1
      rw [List.getElem?_set_self hl] at e2
      cases e2
      exact ⟨u, r, .inl ⟨L.par, by simp⟩⟩
    · have hj : i ≠ j := fun z => hy (by rw [← z, hi] at e1; exact (Option.some.inj e1).symm)
      rw [List.getElem?_set_ne hj] at e2
      rcases e3 with k | k | k
      · exact absurd ((L.own _ (PySem.mem_of_lookup k)).1 rfl) hy
      · exact absurd rfl (L.own _ (PySem.mem_of_lookup k)).2
      · obtain ⟨m, hn, hl⟩ := I.loc
        have hvis : Vis X.env.scope y := (L.free _ (PySem.mem_of_lookup k) rfl).elim (fun k => .inr (.inl k)) (fun k => .inr (.inr k))
        obtain ⟨w', r', q⟩ := hl j y v' e1 e2 hvis
        obtain ⟨c2, h2⟩ := look k
        refine ⟨w', r', .inr ⟨.inr k, c2, h2, ?_⟩⟩
        have c1 := cm h2
        rcases q with ⟨k', _⟩ | ⟨_, c3, e', z⟩
        · replace k' : X.env.scope.names.lookup y = some .local := k'
          rcases L.free _ (PySem.mem_of_lookup k) rfl with k2 | k2 <;> rw [show X.env.scope.names.lookup y = _ from k2] at k' <;> cases k'
        · rw [c1] at e'
          cases e'
          exact cellK z
  · obtain ⟨w', z⟩ := I.cell y c (cm e)
    exact ⟨w', cellK z⟩
  · exact I.freeC y c (cm e)
  · rw [List.length_set]
    exact I.len
/-- f(u), f the lambda -/
theorem lam_call1 {A : Around} {scope : Scope} {p : Str} {params : Arguments} {body : Expr} {f c' : Addr} {pm ctv : Value} {i k : Nat} {u : Value} {v : V} {tb : TE} {Q : VK} (I : Inv X pins σ H s) (L : LamS1 X.env.scope scope p) (hf : s.heap.get? f = some (PySem.W.kla_obj "<lambda>" (X.env.qual ++ "<lambda>") params body scope (cloFrom X.env.cells scope.names []) pm c' ctv))
    (hco : H c' = some (LamX.CodeO c' (X.env.qual ++ "<lambda>"))) (hbind : bindArgs (PySem.W.kla_fn "<lambda>" (X.env.qual ++ "<lambda>") params body scope (cloFrom X.env.cells scope.names []) pm (.ref c') ctv) ⟨[u], []⟩ = pure [(p, u)])
    (hA : A.frames = X.A.frames) (hr : Room (k + 1) A) (hN : X.N.Nodup) (hi : X.N[i]? = some p) (r : RelV v u)
    (hbody : ∀ (A : Around) (outer : List Env) (s : Shared) (H : Hp) (f c' : Addr), Room k (A.deeper (LamX.lamEnv X scope s.heap.objs.size f c')) → PE (LamX.lamCx X A outer s H (fun _ _ _ => False) scope f c') body tb) (ht : tb (σ.set i (some v)) H Q) :
    wpAny (model X.prog X.w) A (call (.ref f) [u]) (EP X pins σ Q) (fun _ _ => False) s := by
  obtain ⟨⟨oc, vs, t, hoc, hdc, hvc⟩, _, _⟩ := I.hok c' _ hco
  have e0 : Env0 X.prog X.w X.K X.mg X.base A X.stack s H := ⟨hA.trans I.env0.frames, I.env0.mod, I.env0.bs, I.env0.bsz, I.env0.funs, I.env0.frf, I.env0.hok, I.env0.bare⟩
  have rc : codeAny (model X.prog X.w) A (.call (.ref f) ⟨[u], []⟩) (CR (L2.CX X.prog X.w) X.stack X.prog X.w H s Q (fun _ _ _ => False)) s := by
    refine PySem.W.kla_callFunE hr.depth hf rfl L.co L.gen rfl ⟨c', oc, vs, t, rfl, hoc, hdc, hvc⟩ ?_
    rw [hbind]
    refine wpAny_pure (wpAny_newFunctionEnv (fun y hy => (L.own y hy).2) (fun y hy => ?_) (fun h₁ hns hsb => ⟨I.nolimit.fresh _ hsb, ?_⟩) L.kind)
    · have e : y = (p, u) := by simpa using hy
      rw [e]
      exact L.par
    show codeAny _ _ (.expr body (LamX.lamEnv X scope s.heap.objs.size f c')) _ _
    have kp : ∀ b o, s.heap.get? b = some o → h₁.get? b = some o := fun b o e => hsb.extBut b o (Nat.ne_of_lt (Heap.lt_size e)) (Heap.get?_push_of_some _ e)
    have J : Inv (LamX.lamCx X A X.stack s H (fun _ _ _ => False) scope f c') [] (σ.set i (some v)) H { s with heap := h₁, toks := s.toks + [(p, u)].length } := lam_start1 I L e0 hr.hd hN hi r hns kp
    refine PySem.W.kla_codeExpr (wpAny_mono ((hbody _ _ s H f c' (hr.deeper _)).run [] _ _ H Q J ht) (fun v s' hq => ?_) fun e s' hq => hq)
    obtain ⟨w', H', J', rv, q⟩ := hq
    exact ⟨w', H', J'.os, J'.bare, J'.base, J'.hok, rv, q⟩
  refine wpAny_call (codeAny_mono rc fun r s' hq => ?_)
  cases r with
  | error e =>
    obtain ⟨_, _, _, _, _, _, _, _, _, _, _, _, z⟩ := hq
    exact z.elim
  | ok fl =>
    cases fl with
    | ret u => exact I.after hq
    | next => exact False.elim hq
    | brk => exact False.elim hq
    | cont => exact False.elim hq
end
end MP
/-! MiniPy 12f: sorted(.., key=lambda x: ..), by data. -/
namespace MP
open PySem PySem.Spec PyProof.Rows L2
variable [TabC]
/-- one positional parameter -/
abbrev oneArg (a : Arg) : Arguments := { posonlyargs := [], args := [a], vararg := none, kwonlyargs := [], kw_defaults := [], kwarg := none, defaults := [] }
theorem bind_one {n q : Str} {a : Arg} {body : Expr} {scope : Scope} {cl : List (Str × Addr)} {pm cv ctv u : Value} : bindArgs (PySem.W.kla_fn n q (oneArg a) body scope cl pm cv ctv) ⟨[u], []⟩ = pure [(a.arg, u)] := by
  unfold bindArgs
  simp [seqItems?, List.lookup]
  first | rfl | (simp [notAStandIn])
/-- what can be gathered -/
def Src (K : PySem.W.Frag) (H : Hp) (a : Addr) (xs : List V) : Prop := SqL K H a xs ∨ SqT K H a xs ∨ ∃ lo hi, H a = some (.rng lo hi) ∧ RgOk lo hi ∧ xs = rgV lo hi
section
variable {X : Cx} {pins : List (Addr × Obj)} {σ : L2.St} {H : Hp} {s : Shared}
theorem Src.mono {K : PySem.W.Frag} {H H' : Hp} {a : Addr} {xs : List V} (h : Src K H a xs) (e : ∀ b o, H b = some o → NT o → H' b = some o) : Src K H' a xs := by
  rcases h with h | h | ⟨lo, hi, h1, h2, h3⟩
  · refine .inl ?_
    rcases h with (h | ⟨o, h⟩) | h
    · exact .inl (.inl (e _ _ h fun _ z => by cases z))
    · exact .inl (.inr ⟨o, e _ _ h fun _ z => by cases z⟩)
    · exact .inr h
  · refine .inr (.inl ?_)
    rcases h with (h | ⟨o, h⟩) | h
    · exact .inl (.inl (e _ _ h fun _ z => by cases z))
    · exact .inl (.inr ⟨o, e _ _ h fun _ z => by cases z⟩)
    · exact .inr h
  · exact .inr (.inr ⟨lo, hi, e _ _ h1 (fun _ z => by cases z), h2, h3⟩)
/-- an object that stands untracked is tracked from now on -/
theorem inv_track {a : Addr} {o : HO} (I : Inv X pins σ H s) (f : FpOk X pins H a) (ha : X.s_0.heap.objs.size ≤ a) (new : ObjOk X.prog X.w (upd H a o) s.heap a o) : Inv X pins σ (upd H a o) s := by
  obtain ⟨f1, f2, f3, f4, f5, f6⟩ := f
  have old : ∀ b u, X.s_0.heap.get? b = some u → b ≠ a := fun b u e => Nat.ne_of_lt (Nat.lt_of_lt_of_le (Heap.lt_size e) ha)
  refine ⟨I.ok, I.os, I.bare, ⟨I.base.keep, I.base.slot, fun b u e n x => ?_, I.base.there, fun b xs e => ?_, fun b u v e => ?_, fun b ps e => ?_⟩, I.loc, I.cell, ?_, fun x c e => ?_, fun p hp => ?_, fun b u e => ?_, I.len⟩
  · rw [upd_ne (old b u e)]
    exact I.base.free b u e n x
  · have q := I.base.tups b xs e
    rw [upd_ne (ne_of_none q f1)]
    exact q
  · have q := I.base.frzs b u v e
    rw [upd_ne (ne_of_none q f1)]
    exact q
  · obtain ⟨more, q⟩ := I.base.tbls b ps e
    exact ⟨more, by rw [upd_ne (ne_of_none q f1)]; exact q⟩
  · rw [upd_ne (Ne.symm f2)]
    exact I.free
  · rw [upd_ne (f5 x c e)]
    exact I.freeC x c e
  · obtain ⟨p1, p2, p3⟩ := I.pin p hp
    exact ⟨p1, by rw [upd_ne (f6 p hp)]; exact p2, p3⟩
  · by_cases hb : b = a
    · subst hb
      rw [upd_same] at e
      cases e
      exact new
    · rw [upd_ne hb] at e
      exact (I.hok b u e).stay (fun c v _ q => q) (fun c q => by rw [upd_ne (ne_of_none q f1)]; exact q) fun c xs q => by rw [upd_ne (ne_of_none q f1)]; exact q
theorem src_collect {A : Around} {E : Value → Shared → Prop} {a : Addr} {xs : List V} {Q : List Value → Shared → Prop} (hh : A.handled = none) (I : Inv X pins σ H s) (h : Src X.K H a xs)
    (q : ∀ vs h' tk, Vals xs vs → vs.length ≤ sizeLine → (∀ b o, s.heap.get? b = some o → h'.get? b = some o) → Q vs { s with heap := h', toks := tk }) : wpAny (model X.prog X.w) A (collect (.ref a)) Q E s := by
  have kp : ∀ vs : List Value, ∀ b o, s.heap.get? b = some o → ((s.heap.push (seqObj "list" #[] 0)).update s.heap.objs.size (Obj.mapSeq (· ++ vs.toArray))).get? b = some o := fun vs b o e => by
    rw [Heap.get?_update_ne _ _ _ _ (Nat.ne_of_lt (Heap.lt_size e))]
    exact Heap.get?_push_of_some _ e
  rcases h with h | h | ⟨lo, hi, h1, h2, rfl⟩
  · obtain ⟨its, rv, hl, hz⟩ := I.list h
    have hz' : its.length ≤ sizeLine := by rw [← rv.length]; exact hz
    exact collect_list hl.isList (q its _ s.toks rv hz' (kp its)) hz'
  · obtain ⟨its, rv, hl, hz⟩ := I.tuple h
    have hz' : its.length ≤ sizeLine := by rw [← rv.length]; exact hz
    exact collect_tuple hl (q its _ s.toks rv hz' (kp its)) hz'
  · obtain ⟨b1, b2, b3, b4, b5⟩ := h2
    obtain ⟨t, u, v, ho⟩ := I.hok a _ h1
    refine collect_range (n := (hi - lo).toNat) hh (show IsRange s.heap a lo hi 1 t u v from ho) (small_one b1 b2 b3 b4) (rangeSize_nat lo hi) b5 fun h' tk acc k e => ?_
    have hv := vals_rg e
    exact q _ h' tk hv (by rw [← hv.length, rgV_length, sizeLine_eq]; omega) k
end
mutual
theorem sub_data {g : Nat → Option D} : ∀ {d : D} {pd : PyData}, toPD d = some pd → sub g d = some d
  | .non, _, _ => by simp [sub]
  | .bl _, _, _ => by simp [sub]
  | .int _, _, _ => by simp [sub]
  | .str _, _, _ => by simp [sub]
  | .tup l, pd, h => by
    simp only [toPD, Option.map_eq_some_iff] at h
    obtain ⟨ps, h, _⟩ := h
    simp [sub, subs_data h]
  | .lst l, pd, h => by
    simp only [toPD, Option.map_eq_some_iff] at h
    obtain ⟨ps, h, _⟩ := h
    simp [sub, subs_data h]
  | .scr _, _, h => by simp [toPD] at h
  | .dct _, _, h => by simp [toPD] at h
  | .ref _, _, h => by simp [toPD] at h
  | .ty _, _, h => by simp [toPD] at h
theorem subs_data {g : Nat → Option D} : ∀ {l : List D} {ps : List PyData}, toPDs l = some ps → subs g l = some l
  | [], _, _ => by simp [subs]
  | d :: r, ps, h => by
    simp only [toPDs, Option.bind_eq_some_iff, Option.map_eq_some_iff] at h
    obtain ⟨p, h1, q, h2, _⟩ := h
    simp [subs, sub_data h1, subs_data h2]
end
section
variable {K : PySem.W.Frag} {φ : Ph} {H : Hp}
theorem rep_dp {d : D} {v : V} {pd : PyData} (r : Rep K φ H d v) (h : toPD d = some pd) : Dp K H v pd :=
  dp_sub (g := fun _ => none) (fun _ _ _ _ _ e => by cases e) d v d pd r (sub_data h) h
theorem reps_reads {X : Cx} {pins : List (Addr × Obj)} {σ : L2.St} {s : Shared} (I : Inv X pins σ H s) : ∀ {ks : List D} {kvs : List V} {us : List Value} {kz : List PyData}, Reps X.K φ H ks kvs → Vals kvs us → toPDs ks = some kz → PySem.W.EachIs (fun v d => ∃ as, Reads s.heap v d as) us kz
  | [], _, _, _, r, rv, h => by
    cases r
    cases rv
    cases h
    exact .nil
  | d :: ks, _, _, _, r, rv, h => by
    cases r with
    | cons r1 r2 =>
      cases rv with
      | cons v1 v2 =>
        simp only [toPDs, Option.bind_eq_some_iff, Option.map_eq_some_iff] at h
        obtain ⟨p, h1, q, h2, rfl⟩ := h
        exact .cons (Dp.reads I _ _ _ (rep_dp r1 h1) v1) (reps_reads I r2 v2 h2)
end
theorem keysOk_is {kz : List PyData} (h : keysOk kz = true) : PySem.W.AllAlike kz ∧ PySem.W.Sortable kz ∧ ∀ d ∈ kz, d.depth ≤ 50 := by
  unfold keysOk at h
  simp only [Bool.and_eq_true, Bool.or_eq_true, List.all_eq_true, decide_eq_true_eq] at h
  obtain ⟨h1, h2, h3⟩ := h
  refine ⟨h1, ?_, h3⟩
  rcases h2 with h2 | h2
  · refine .inl fun d hd => ?_
    have := h2 d hd
    cases d <;> simp [tupNE] at this
    rename_i l
    cases l
    · simp [tupNE] at this
    · exact ⟨_, _, rfl⟩
  · refine .inr fun d hd => ?_
    have := h2 d hd
    refine ⟨fun e => ?_, fun xs e => ?_⟩ <;> (subst e; simp [notTN] at this)
/-- the values sorted along with their data -/
theorem sort_each {K : PySem.W.Frag} {φ : Ph} {H : Hp} {ds : List D} {kz : List PyData} {xs : List V} {vs : List Value} {ks : List Value} {h : Heap} (r : Reps K φ H ds xs) (rv : Vals xs vs) (hl : ds.length = kz.length)
    (hal : PySem.W.AllAlike kz) (hk : PySem.W.EachIs (fun v d => ∃ as, Reads h v d as) ks kz) : ∃ ys, Reps K φ H (sortBy ds kz) ys ∧ Vals ys (PySem.W.sortVals (PySem.W.dataKind h kz) false ks vs) := by
  have hx : ds.length = xs.length := r.length
  have e1 : PySem.W.EachIs (fun v (b : (D × PyData) × V) => RelV b.2 v) vs ((ds.zip kz).zip xs) := by
    have go : ∀ (l : List (D × PyData)) (xs : List V) (vs : List Value), Vals xs vs → l.length = xs.length → PySem.W.EachIs (fun v (b : (D × PyData) × V) => RelV b.2 v) vs (l.zip xs) := by
      intro l
      induction l with
      | nil =>
        intro xs vs rv hl
        cases rv with
        | nil => exact .nil
        | cons _ _ => simp at hl
      | cons a l ih =>
        intro xs vs rv hl
        cases rv with
        | nil => simp at hl
        | cons r1 r2 => exact .cons r1 (ih _ _ r2 (by simpa using hl))
    exact go _ _ _ rv (by rw [List.length_zip]; omega)
  have ek : (((ds.zip kz).zip xs).map fun b => b.1.2) = kz := by
    have a1 : (((ds.zip kz).zip xs).map fun b => b.1) = ds.zip kz := List.map_fst_zip (by rw [List.length_zip]; omega)
    have a2 : (ds.zip kz).map (fun b => b.2) = kz := List.map_snd_zip (by omega)
    rw [show (fun b : (D × PyData) × V => b.1.2) = (fun b => b.2) ∘ (fun b => b.1) from rfl, ← List.map_map, a1, a2]
  have ko : PySem.W.KeyedOut false (((ds.zip kz).zip xs).map fun b => b.1.2) vs (PySem.W.sortVals (PySem.W.dataKind h kz) false ks vs) := by
    rw [ek]
    exact ⟨h, ks, hal, rfl, hk⟩
  have go := PySem.W.keyedOut_each (R := fun v (b : (D × PyData) × V) => RelV b.2 v) (fun b : (D × PyData) × V => b.1.2) ko e1
  generalize hS : ((ds.zip kz).zip xs).mergeSort (PySem.W.dataLe false fun b => b.1.2) = S at go
  have hm : ∀ b ∈ S, Rep K φ H b.1.1 b.2 := fun b hb => by
    have hb' : b ∈ (ds.zip kz).zip xs := by
      rw [← hS] at hb
      exact (List.mergeSort_perm _ _).mem_iff.mp hb
    obtain ⟨i, hi, e⟩ := List.mem_iff_getElem.mp hb'
    have h1 : ds[i]? = some b.1.1 ∧ xs[i]? = some b.2 := by
      have q : ((ds.zip kz).zip xs)[i]? = some b := by rw [List.getElem?_eq_getElem hi, e]
      rw [List.getElem?_zip_eq_some, List.getElem?_zip_eq_some] at q
      exact ⟨q.1.1, q.2⟩
    obtain ⟨v, g1, g2⟩ := r.get h1.1
    rw [h1.2] at g1
    cases g1
    exact g2
  have e2 : sortBy ds kz = S.map fun b => b.1.1 := by
    unfold sortBy
    have a1 : (((ds.zip kz).zip xs).map fun b => b.1) = ds.zip kz := List.map_fst_zip (by rw [List.length_zip]; omega)
    have q : (((ds.zip kz).zip xs).mergeSort (PySem.W.dataLe false fun b => b.1.2)).map Prod.fst = (ds.zip kz).mergeSort (PySem.W.dataLe false Prod.snd) :=
      (List.map_mergeSort (r := PySem.W.dataLe false fun b : (D × PyData) × V => b.1.2) (s := PySem.W.dataLe false Prod.snd) (f := Prod.fst) fun a _ b _ => rfl).trans (congrArg (fun l : List (D × PyData) => l.mergeSort (PySem.W.dataLe false Prod.snd)) a1)
    rw [← hS, ← q, List.map_map]
    rfl
  refine ⟨S.map fun b => b.2, ?_, ?_⟩
  · rw [e2]
    clear hS go e2
    induction S with
    | nil => exact .nil
    | cons b S ih => exact .cons (hm b List.mem_cons_self) (ih fun c hc => hm c (List.mem_cons_of_mem _ hc))
  · have fin : ∀ {us : List Value} {S : List ((D × PyData) × V)}, PySem.W.EachIs (fun v (b : (D × PyData) × V) => RelV b.2 v) us S → Vals (S.map fun b => b.2) us := by
      intro us S e
      induction e with
      | nil => exact .nil
      | cons r _ ih => exact .cons r ih
    exact fin go
end MP
/-! MiniPy 12g: sorted(.., key=lambda x: ..) as a rule. -/
namespace MP
open PySem PySem.Spec PyProof.Rows L2
variable [TabC]
theorem mapE_cons {f : Lo → List D → R D} {p : Nat} {L : Lo} {x : D} {r : List D} {M M2 : List D} {ks : List D} (h : mapE f p L (x :: r) M = .ok ks M2) : ∃ k M1 ks', f (L.set p (some x)) M = .ok k M1 ∧ mapE f p L r M1 = .ok ks' M2 ∧ ks = k :: ks' := by
  unfold mapE at h
  cases hf : f (L.set p (some x)) M with
  | ok k M1 =>
    rw [hf, R.bind_ok] at h
    cases hr : mapE f p L r M1 with
    | ok ks' M3 =>
      rw [hr, R.bind_ok] at h
      cases h
      exact ⟨k, M1, ks', rfl, hr, rfl⟩
    | exc c e M3 => rw [hr] at h; cases h
    | bad => rw [hr] at h; cases h
  | exc c e M1 => rw [hf] at h; cases h
  | bad => rw [hf] at h; cases h
/-- what is gathered, by data -/
def tSrc (K : PySem.W.Frag) (W : WX) (m : Lo → List D → R Wk) : TE := fun σ H Q => ∃ L φ M, LR K φ H L σ ∧ MH K φ H M ∧ PR K W σ φ H (m L M) fun w M' φ' H' => ∀ a xs, (w.items.length ≤ lim → Src K H' a xs) → Reps K φ' H' w.items xs → Q (.ref a) H'
section
variable {X : Cx} {W : WX} {cl : Cl} {a b : Expr} {ma mb : E} {pos : Pos}
theorem ms_seq (ha : PE X a (tE X.K W (evE cl ma))) : PE X a (tSrc X.K W (evI cl (.seq ma))) := by
  refine imp_PE ha fun σ H Q h => ?_
  obtain ⟨L, φ, M, lr, mh, p⟩ := h
  refine tE_use lr mh (PR.bind (show PR X.K W σ φ H ((evE cl ma L M).bind fun x M1 => ofO (seqS M1 x) M1) _ from p)) fun x M1 φ1 H1 v e1 m1 g1 r1 => ?_
  cases x with
  | tup l =>
    obtain ⟨q, xs, rfl, sq, r⟩ := r1.sqT
    exact (show PR X.K W σ φ1 H1 (.ok (Wk.mk l none) M1) _ from g1).here m1 q xs (fun _ => .inr (.inl sq)) r
  | lst l =>
    cases id r1 with
    | lst h1 h2 h3 => exact (show PR X.K W σ φ1 H1 (.ok (Wk.mk l none) M1) _ from g1).here m1 _ _ (fun _ => .inl (SqL.of h1)) h3
  | scr l =>
    cases id r1 with
    | scr h1 h3 => exact (show PR X.K W σ φ1 H1 (.ok (Wk.mk l none) M1) _ from g1).here m1 _ _ (fun _ => .inl h1.sq) h3
  | ref n =>
    replace g1 := show PR X.K W σ φ1 H1 (ofO (match M1[n]? with | some (.lst l) => some (Wk.mk l (some n)) | _ => none) M1) _ from g1
    split at g1
    · rename_i l hl
      obtain ⟨q, ys, rfl, sq, r⟩ := lst_at m1 r1 (show cont M1 (.ref n) = _ from hl)
      exact g1.here m1 q ys (fun _ => .inl (SqL.of sq)) r
    · exact False.elim g1
  | _ => exact False.elim g1
theorem cr_range1 : CallR X (.type "range") (fun vs H Q => ∃ j, vs = [V.int j] ∧ ∀ p, H p = none → Q (.ref p) (upd H p (.rng 0 j))) := by
  intro pins s σ H vs us Q I r h
  obtain ⟨j, rfl, q⟩ := h
  obtain ⟨u1, rfl, ri⟩ := vals1 r
  obtain ⟨t, rfl⟩ := ri
  exact call_range_1 ⟨.ref s.heap.objs.size, upd H s.heap.objs.size (.rng 0 j), I.laid (t' := s.toks + 1 + 1) (fun b o e => Heap.get?_push_of_some _ e) (Nat.le_refl _) ⟨s.toks, t, s.toks + 1, Heap.get?_push_size _ rfl⟩, rfl, q _ (I.hok.fresh (Nat.le_refl _))⟩
theorem src_rng {K : PySem.W.Frag} {φ : Ph} {H : Hp} {M : List D} {σ : L2.St} {i j : Int} {Q : VK} (m : MH K φ H M) (hk : rgOk i j = true)
    (g : PR K W σ φ H (.ok (Wk.mk (rgL i j) none) M) fun w M' φ' H' => ∀ a xs, (w.items.length ≤ lim → Src K H' a xs) → Reps K φ' H' w.items xs → Q (.ref a) H') : ∀ p, H p = none → Q (.ref p) (upd H p (.rng i j)) := fun p hp => by
  refine g φ _ (Ext.new hp) (m.new hp) p (rgV i j) (fun hl => .inr (.inr ⟨i, j, upd_same, ?_, rfl⟩)) (reps_rg _ _)
  refine rgOk_is ?_
  rw [Bool.and_eq_true]
  refine ⟨hk, decide_eq_true ?_⟩
  have e : (rgL i j).length = (j - i).toNat := by simp [rgL]
  rw [← e]
  exact Nat.le_trans hl (by decide)
theorem ms_range1 {p : Pos} (bn : BN X "range") (ha : PE X a (tE X.K W (evE cl ma))) (he : starEach [a] X.env = (false, eval a X.env) :: starEach [] X.env) :
    PE X (.Call (.Name "range" p) [a] [] pos) (tSrc X.K W (evI cl (.range (.lit (.int 0)) ma))) := by
  refine imp_PE (pe_callTy cr_range1 bn.gl bn.none boot_range (pa_cons ha pa_nil he) (by decide) (by decide) he rfl) fun σ H Q h => ?_
  obtain ⟨L, φ, M, lr, mh, p⟩ := h
  refine tE_use lr mh (PR.bind (show PR X.K W σ φ H ((evE cl ma L M).bind fun y M2 => match D.int 0, y with | .int i, .int j => if rgOk i j then .ok (Wk.mk (rgL i j) none) M2 else .bad | _, _ => .bad) _ from p)) fun d2 M2 φ2 H2 v2 e2 m2 g2 r2 => ?_
  cases d2 with
  | int j =>
    cases r2
    by_cases hk : rgOk 0 j = true
    · replace g2 := show PR X.K W σ φ2 H2 (if rgOk 0 j then .ok (Wk.mk (rgL 0 j) none) M2 else .bad) _ from g2
      rw [if_pos hk] at g2
      exact ⟨j, rfl, src_rng m2 hk g2⟩
    · replace g2 := show PR X.K W σ φ2 H2 (if rgOk 0 j then .ok (Wk.mk (rgL 0 j) none) M2 else .bad) _ from g2
      rw [if_neg hk] at g2
      exact False.elim g2
  | _ => exact False.elim g2
theorem ms_range2 {p : Pos} (bn : BN X "range") (ha : PE X a (tE X.K W (evE cl ma))) (hb : PE X b (tE X.K W (evE cl mb))) (he : starEach [a, b] X.env = (false, eval a X.env) :: starEach [b] X.env) (he2 : starEach [b] X.env = (false, eval b X.env) :: starEach [] X.env) :
    PE X (.Call (.Name "range" p) [a, b] [] pos) (tSrc X.K W (evI cl (.range ma mb))) := by
  refine imp_PE (pe_callTy cr_range2 bn.gl bn.none boot_range (pa_cons ha (pa_cons hb pa_nil he2) he) (by decide) (by decide) he (by rw [he2]; rfl)) fun σ H Q h => ?_
  obtain ⟨L, φ, M, lr, mh, p⟩ := h
  refine tE_use lr mh (PR.bind (show PR X.K W σ φ H ((evE cl ma L M).bind fun x M1 => (evE cl mb L M1).bind fun y M2 => match x, y with | .int i, .int j => if rgOk i j then .ok (Wk.mk (rgL i j) none) M2 else .bad | _, _ => .bad) _ from p)) fun d1 M1 φ1 H1 v1 e1 m1 g1 r1 => ?_
  refine tE_use (lr.ext e1) m1 (PR.bind g1) fun d2 M2 φ2 H2 v2 e2 m2 g2 r2 => ?_
  have r1' := Rep.ext e2 _ _ r1
  cases d1 with
  | int i =>
    cases d2 with
    | int j =>
      cases r1'
      cases r2
      by_cases hk : rgOk i j = true
      · replace g2 := show PR X.K W σ φ2 H2 (if rgOk i j then .ok (Wk.mk (rgL i j) none) M2 else .bad) _ from g2
        rw [if_pos hk] at g2
        exact ⟨i, j, rfl, src_rng m2 hk g2⟩
      · replace g2 := show PR X.K W σ φ2 H2 (if rgOk i j then .ok (Wk.mk (rgL i j) none) M2 else .bad) _ from g2
        rw [if_neg hk] at g2
        exact False.elim g2
    | _ => exact False.elim g2
  | _ => exact False.elim g2
end
section
variable {X : Cx} {W : WX} {cl : Cl} {mb : E} {mi : I}
theorem vals_push {vs : List V} {kA : Array Value} {v : V} {k : Value} (r : Vals vs kA.toList) (h : RelV v k) : Vals (vs ++ [v]) (kA.push k).toList := by
  rw [Array.toList_push]
  exact r.append (.cons h .nil)
/-- the run of list.sort: the keys are asked, the new list is filled -/
theorem sort_core {pins : List (Addr × Obj)} {σ : L2.St} {H : Hp} {s : Shared} {k i : Nat} {a : Arg} {body : Expr} {scope : Scope} {f c' l : Addr} {pm ctv : Value} {φ : Ph} {M M2 : List D} {L : Lo} {ds ks : List D} {xs : List V} {vs : List Value} {kz : List PyData} {Q : VK} {A : Around} {E' : Value → Shared → Prop}
    (I : Inv X pins σ H s) (LS : LamS1 X.env.scope scope a.arg) (hf : s.heap.get? f = some (PySem.W.kla_obj "<lambda>" (X.env.qual ++ "<lambda>") (oneArg a) body scope (cloFrom X.env.cells scope.names []) pm c' ctv)) (hfn : H f = none) (hfr : f ∉ frs X.stack) (hco : H c' = some (LamX.CodeO c' (X.env.qual ++ "<lambda>")))
    (hA : A.frames = X.A.frames) (hu : A.units + 50 < cLine) (hr : Room (k + 1) A) (hN : X.N.Nodup) (hi : X.N[i]? = some a.arg)
    (hbody : ∀ (A : Around) (outer : List Env) (s : Shared) (H : Hp) (Ex : XK) (f c' : Addr), Room k (A.deeper (LamX.lamEnv X scope s.heap.objs.size f c')) → PE (LamX.lamCx X A outer s H Ex scope f c') body (tE X.K (fun c d _ H => Ex c d H) (evE cl.lower mb)))
    (lr : LR X.K φ H L σ) (mh : MH X.K φ H M) (rds : Reps X.K φ H ds xs) (rv : Vals xs vs) (hrun : mapE (evE cl.lower mb) i L ds M = .ok ks M2) (hkz : toPDs ks = some kz) (hok : keysOk kz = true) (hlen : ds.length = kz.length) (hlim : ds.length ≤ lim)
    (hl : s.heap.get? l = some (seqObj "list" vs.toArray 0)) (fl : FpOk X pins H l) (hl0 : X.s_0.heap.objs.size ≤ l) (hlf : f ≠ l)
    (q : ∀ φ' H' ys, Ext φ H φ' H' → MH X.K φ' H' M2 → Reps X.K φ' H' (sortBy ds kz) ys → H' l = none → Q (.ref l) (upd H' l (.lst ys))) :
    wpAny (model X.prog X.w) A (ksk_tree l (.ref f) false) (fun fn s' => fn = .done (.ret .none) ∧ EP X pins σ Q (.ref l) s') E' s := by
  have hlx : ds.length = xs.length := rds.length
  have hvx : xs.length = vs.length := rv.length
  have hZ : vs.length ≤ sizeLine := by rw [← hvx, ← hlx]; exact hlim
  refine key_tree hl hZ fun kS e1 h2 hle hkp ha2 hkS2 => ?_
  have hkSl : kS ≠ l := fun z => by
    rw [z] at hle
    exact absurd (Nat.lt_of_lt_of_le (Heap.lt_size hl) hle) (Nat.lt_irrefl _)
  have hHk : H kS = none := I.hok.fresh hle
  have fk : FpOk X pins H kS := I.fpOk hle hHk
  have I2 : Inv X pins σ H { s with heap := h2 } := I.turnedL (t' := s.toks) (ch := [l]) (fun b o hb e => hkp b o (by simpa using hb) e) (fun b hb => by
    have e : b = l := by simpa using hb
    rw [e]
    exact fl)
  have fpH : ∀ {H' : Hp} {b : Addr}, FpOk X pins H b → H' b = none → FpOk X pins H' b := fun f n => ⟨n, f.2⟩
  have hf2 : h2.get? f = some (PySem.W.kla_obj "<lambda>" (X.env.qual ++ "<lambda>") (oneArg a) body scope (cloFrom X.env.cells scope.names []) pm c' ctv) := hkp f _ hlf hf
  have hfk : f ≠ kS := fun z => by
    rw [z] at hf
    exact absurd (Nat.lt_of_lt_of_le (Heap.lt_size hf) hle) (Nat.lt_irrefl _)
  refine key_rest (s := { s with heap := h2 }) hkSl hZ
    (fun n kA s' => ∃ Hi φi Mi kds kvs rest, Inv X pins σ Hi s' ∧ (∃ e, s'.heap.get? kS = some (seqObj "list" kA e)) ∧ s'.heap.get? l = some (seqObj "list" #[] e1) ∧ Hi l = none ∧ Hi kS = none ∧ (s'.heap.get? f = some (PySem.W.kla_obj "<lambda>" (X.env.qual ++ "<lambda>") (oneArg a) body scope (cloFrom X.env.cells scope.names []) pm c' ctv) ∧ Hi f = none) ∧
      Ext φ H φi Hi ∧ MH X.K φi Hi Mi ∧ kds.length = n ∧ Reps X.K φi Hi kds kvs ∧ Vals kvs kA.toList ∧ mapE (evE cl.lower mb) i L (ds.drop n) Mi = .ok rest M2 ∧ ks = kds ++ rest) ?hS ?h0 ?turn ?fin
  case hS =>
    rintro n kA s' ⟨Hi, φi, Mi, kds, kvs, rest, I', hk, hl', _, _, _, _, _, hn, rk, rvk, _, _⟩
    refine ⟨?_, hk, hl'⟩
    rw [← Array.length_toList, ← rvk.length, ← rk.length]
    exact hn
  case h0 => exact ⟨H, φ, M, [], [], ks, I2, ⟨0, hkS2⟩, ha2, fl.1, hHk, ⟨hf2, hfn⟩, Ext.refl, mh, rfl, .nil, .nil, hrun, rfl⟩
  case turn =>
    rintro n v kA s' hv ⟨Hi, φi, Mi, kds, kvs, rest, I', ⟨ek, hk⟩, hl', nl, nk, ⟨hf', nf⟩, ex, mi', hn, rk, rvk, hrest, eks⟩
    have hnv : n < vs.length := (List.getElem?_eq_some_iff.mp hv).1
    have hnd : n < ds.length := by omega
    have hd : ds.drop n = ds[n] :: ds.drop (n + 1) := List.drop_eq_getElem_cons hnd
    rw [hd] at hrest
    obtain ⟨kd, M1, rest', hb, hrest', rfl⟩ := mapE_cons hrest
    obtain ⟨xv, hx1, hx2⟩ := (Reps.ext ex _ _ rds).get (List.getElem?_eq_getElem hnd)
    obtain ⟨u, hu1, hu2⟩ := rv.get hx1
    rw [hv] at hu1
    cases hu1
    have pin2 : ∀ p ∈ (kS, seqObj "list" kA ek) :: (l, seqObj "list" #[] e1) :: (f, PySem.W.kla_obj "<lambda>" (X.env.qual ++ "<lambda>") (oneArg a) body scope (cloFrom X.env.cells scope.names []) pm c' ctv) :: pins, s'.heap.get? p.1 = some p.2 ∧ Hi p.1 = none ∧ p.1 ≠ X.env.locals ∧ p.1 ∉ X.fs ∧ ∀ v, p.2.data ≠ .cell v := fun p hp => by
      simp only [List.mem_cons] at hp
      rcases hp with rfl | rfl | rfl | hp
      · exact ⟨hk, nk, fk.2.1, fk.2.2.1, fun v z => by cases z⟩
      · exact ⟨hl', nl, fl.2.1, fl.2.2.1, fun v z => by cases z⟩
      · refine ⟨hf', nf, fun z => ?_, fun z => ?_, fun v z => by cases z⟩
        · obtain ⟨m, ⟨o, es, ep, ho, hd, _⟩, _⟩ := I'.loc
          replace z : f = X.env.locals := z
          rw [← z, hf'] at ho
          cases ho
          cases hd
        · replace z : f ∈ frs X.outer := z
          refine hfr ?_
          rcases I'.ok.stk with e | ⟨e, hfm⟩
          · rw [e]
            exact z
          · rw [e]
            unfold frs
            rw [List.filterMap_cons, hfm]
            exact List.mem_cons_of_mem _ z
      · exact I'.pin p (List.mem_append_right _ hp)
    refine thn (lam_call1 (tb := tE X.K (fun _ _ _ _ => False) (evE cl.lower mb)) (I'.pins_of pin2) LS hf' (ex.keep _ _ hco (fun _ z => LamX.codeO_ne _ z) fun z => ?_).1 bind_one hA hr hN hi hu2 (fun A outer s H f c' hr => hbody A outer s H (fun _ _ _ => False) f c' hr) (Q := fun w H' => ∃ φ', Ext φi Hi φ' H' ∧ MH X.K φ' H' M1 ∧ Rep X.K φ' H' kd w) ?_) fun kv s2 hq => ?_
    · obtain ⟨o, ho, hx⟩ := mh.there z
      rw [hco] at ho
      cases ho
      exact hx.2 _ rfl
    · refine ⟨L.set i (some ds[n]), φi, Mi, (lr.ext ex).set i hx2, mi', ?_⟩
      rw [hb]
      exact fun φ' H' e m v r => ⟨φ', e, m, r⟩
    · obtain ⟨w, H', I3, hw, φ', e3, m3, r3⟩ := hq
      obtain ⟨p1, p2, _⟩ := I3.pin (kS, seqObj "list" kA ek) (List.mem_append_right _ (by simp))
      obtain ⟨p3, p4, _⟩ := I3.pin (l, seqObj "list" #[] e1) (List.mem_append_right _ (by simp))
      obtain ⟨p5, p6, _⟩ := I3.pin (f, PySem.W.kla_obj "<lambda>" (X.env.qual ++ "<lambda>") (oneArg a) body scope (cloFrom X.env.cells scope.names []) pm c' ctv) (List.mem_append_right _ (by simp))
      refine ⟨⟨ek, p1⟩, fun h' e' n1 kp => ?_⟩
      have I4 : Inv X pins σ H' s2 := I3.pins_of fun p hp => I3.pin p (List.mem_append_right _ (by simp [hp]))
      have I5 : Inv X pins σ H' { s2 with heap := h' } := I4.turnedL (t' := s2.toks) (ch := [kS]) (fun b o hb e => kp b o (by simpa using hb) e) (fun b hb => by
        have e : b = kS := by simpa using hb
        rw [e]
        exact fpH fk p2)
      exact ⟨H', φ', M1, kds ++ [kd], kvs ++ [w], rest', I5, ⟨e', n1⟩, kp _ _ (Ne.symm hkSl) p3, p4, p2, ⟨kp _ _ hfk p5, p6⟩, ex.trans e3, m3, by simp [hn], (Reps.ext e3 _ _ rk).append (.cons r3 .nil), vals_push rvk hw, hrest', by rw [eks]; simp⟩
  case fin =>
    rintro kA s' ⟨Hi, φi, Mi, kds, kvs, rest, I', hk, hl', nl, nk, _, ex, mi', hn, rk, rvk, hrest, eks⟩
    rw [List.drop_of_length_le (by omega)] at hrest
    cases hrest
    rw [List.append_nil] at eks
    subst eks
    have hrd := reps_reads I' rk rvk hkz
    obtain ⟨k1, k2, k3⟩ := keysOk_is hok
    obtain ⟨ys, y1, y2⟩ := sort_each (Reps.ext ex _ _ rds) rv hlen k1 hrd
    refine ⟨_, PySem.W.SortsAt.data (s := s') hrd k1 k2 (fun d hd => by have := k3 d hd; omega), fun h' tk c kp hl2 => ⟨rfl, .ref l, upd Hi l (.lst ys), ?_, rfl, q φi Hi ys ex mi' y1 nl⟩⟩
    have I5 : Inv X pins σ Hi { s' with heap := h', toks := tk } := I'.turnedL (t' := tk) (ch := [l, kS]) (fun b o hb e => kp b o (fun z => hb (by simp [z])) (fun z => hb (by simp [z])) e) (fun b hb => by
      simp only [List.mem_cons, List.not_mem_nil, or_false] at hb
      rcases hb with rfl | rfl
      · exact fpH fl nl
      · exact fpH fk nk)
    refine inv_track I5 (fpH fl nl) hl0 ⟨?_, _, c, y2, hl2⟩
    rw [← y1.length]
    unfold sortBy
    rw [List.length_map, List.length_mergeSort, List.length_zip]
    exact Nat.le_trans (Nat.min_le_left _ _) hlim
theorem me_sortK {k i : Nat} {a : Arg} {arg body : Expr} {scope : Scope} {p lpos kpos pos : Pos}
    (hc : cl.hi = true → Room (k + 2) X.A ∧ ∀ (A : Around) (outer : List Env) (s : Shared) (H : Hp) (Ex : XK) (f c' : Addr), Room k (A.deeper (LamX.lamEnv X scope s.heap.objs.size f c')) → PE (LamX.lamCx X A outer s H Ex scope f c') body (tE X.K (fun c d _ H => Ex c d H) (evE cl.lower mb)))
    (lo : LamOk X) (calm : X.calm = true) (hu : X.A.units + 64 < cLine) (bn : BN X "sorted") (hN : X.N.Nodup) (hi : X.N[i]? = some a.arg) (hs : PE X arg (tSrc X.K W (evI cl mi))) (LS : LamS1 X.env.scope scope a.arg)
    (he : starEach [arg] X.env = (false, eval arg X.env) :: starEach [] X.env) : PE X (.Call (.Name "sorted" p) [arg] [⟨some "key", .Lambda (oneArg a) body scope lpos, kpos⟩] pos) (tN X.K W (evN cl (.sortK mi i mb))) := by
  refine ⟨fun pins s σ H Q I h => ?_⟩
  obtain ⟨L, φ, M, lr, mh, pr⟩ := h
  replace pr := PR.bind (show PR X.K W σ φ H ((evI cl mi L M).bind fun w M1 => if cl.hi then (if w.items.length ≤ lim then ((mapE (evE cl.lower mb) i L w.items M1).nx).bind fun ks M2 => ofO (sortD w.items ks) M2 else .bad) else .bad) _ from pr)
  refine wpAny_Call_Name_kw (ld_blt I bn.gl bn.none (show bootBuiltins "sorted" = some (.builtin "sorted") by decide +kernel) ?_ (by decide) (by decide))
  refine PyProof.Rows.callWith_kw (thn ((pa_cons hs pa_nil he).run pos pins s σ H (fun vs H1 => ∃ (φ1 : Ph) (M1 : List D) (w : Wk) (xs : List V) (x : Addr), vs = [V.ref x] ∧ Ext φ H φ1 H1 ∧ MH X.K φ1 H1 M1 ∧ (w.items.length ≤ lim → Src X.K H1 x xs) ∧ Reps X.K φ1 H1 w.items xs ∧
      PR X.K W σ φ1 H1 (if cl.hi then (if w.items.length ≤ lim then ((mapE (evE cl.lower mb) i L w.items M1).nx).bind fun ks M2 => ofO (sortD w.items ks) M2 else .bad) else .bad) _) I ⟨L, φ, M, lr, mh, pr.mono fun w M1 φ1 H1 e1 m1 g1 x xs h1 h2 => ⟨φ1, M1, w, xs, x, rfl, e1, m1, h1, h2, g1⟩⟩) fun us s1 hq => ?_) (by rw [he]; rfl) (by rw [he]; rfl) rfl rfl
  obtain ⟨vs, H1, I1, r1, φ1, M1, w, xs, x, rfl, e1, m1, src, rds, g1⟩ := hq
  obtain ⟨u, rfl, ru⟩ := vals1 r1
  obtain rfl : u = Value.ref x := ru
  by_cases hhi : cl.hi = true
  · rw [if_pos hhi] at g1
    by_cases hlim : w.items.length ≤ lim
    case neg =>
      rw [if_neg hlim] at g1
      exact False.elim g1
    rw [if_pos hlim] at g1
    obtain ⟨hr, hbody⟩ := hc hhi
    replace src := src hlim
    obtain ⟨c, P, l1, l2, l3, l4⟩ := lo.ex
    show wpAny _ _ (evalAll ((do let v ← eval (.Lambda (oneArg a) body scope lpos) X.env; standAt pos; pure v) :: (backToKw pos (keywordEach [] X.env)).map (·.2))) _ _ s1
    refine wpAny_evalAll_cons (wpAny_bind (LamX.lam_make2 I1 l2 l1 l3 l4 m1.tab rfl (LS.has I1.ok) fun f c' pm ctv H2 s2 I2 eN T2 hf hfn hfr hco => wpAny_bind (wpAny_standAt (wpAny_pure (wpAny_evalAll_nil ?_)))))
    obtain ⟨e2, m2⟩ := ext_n m1 eN T2
    have hA0 : X.A.handled = none := I2.ok.hd calm
    refine sorted_tree (kw := [(Str.ofString "key", .ref f)]) (ksk_s1 _ _) (fun _ => ksk_l1 _ _) (fun _ => ksk_t1 _ _) fun Q' go => ?_
    refine src_collect (A := X.A.in1) hA0 I2 (src.mono eN) fun vs h' tk rv hz kp => go vs h' tk hz kp fun E' => ?_
    have Ih : Inv X pins σ H2 { s2 with heap := h', toks := tk } := I2.kept (t' := tk) kp
    have fl : FpOk X pins H2 h'.objs.size := Ih.fpOk (Nat.le_refl _) (Ih.hok.fresh (Nat.le_refl _))
    have Ip : Inv X pins σ H2 { s2 with heap := h'.push (seqObj "list" vs.toArray 0), toks := tk } := Ih.kept (t' := tk) fun b o e => Heap.get?_push_of_some _ e
    have hf' := kp _ _ hf
    cases hrun : mapE (evE cl.lower mb) i L w.items M1 with
    | ok ks M2 =>
      rw [hrun, R.nx_ok, R.bind_ok] at g1
      cases hsd : sortD w.items ks with
      | none => rw [hsd] at g1; exact False.elim g1
      | some d =>
        rw [hsd, ofO_some] at g1
        unfold sortD at hsd
        rw [Option.bind_eq_some_iff] at hsd
        obtain ⟨kz, hkz, hsd⟩ := hsd
        split at hsd
        · rename_i hk
          cases hsd
          rw [Bool.and_eq_true, Bool.and_eq_true, decide_eq_true_eq, decide_eq_true_eq] at hk
          obtain ⟨k1, k2, k3⟩ := hk
          refine sort_core (k := k) (i := i) (mb := mb) (cl := cl) Ip LS (Heap.get?_push_of_some _ hf') hfn hfr hco rfl (by show X.A.units + 1 + 1 + 50 < cLine; omega) ⟨hA0, ?_, ?_⟩ hN hi hbody ((lr.ext e1).ext e2) m2 (Reps.ext e2 _ _ rds) rv hrun hkz k1 k2 hlim (Heap.get?_push_size _ rfl) fl Ih.sz (Nat.ne_of_lt (Heap.lt_size hf')) fun φ' H' ys ex mh' ry nl => ?_
          · have := hr.dp
            show X.A.depth + 3 * (k + 1) + 5 < _
            omega
          · have := hr.un
            show X.A.units + 1 + 1 + 16 * (k + 1) + 200 < _
            omega
          · exact g1 φ' H' (e2.trans ex) mh' _ _ (.lst ry) nl
        · cases hsd
    | exc c e M2 => rw [hrun] at g1; exact False.elim g1
    | bad => rw [hrun] at g1; exact False.elim g1
  · rw [if_neg hhi] at g1
    exact False.elim g1
end
end MP
/-! MiniPy 13: from the syntax tree into the small language. -/
namespace MP
open PySem PySem.Spec PyProof.Rows L2

structure Ctx where
  N : List Str
  sc : Scope
  raw : Option Scope := none
  defs : List (Str × Nat) := []
  cons : List (Str × D) := []
  blts : List Str := []
  mu : List (Nat × Nat) := []
  exs : List Str := []
  mets : List (Str × MetI) := []
  lam : Bool := false

/-! ### the translation -/
def ixOf : List Str → Str → Option Nat
  | [], _ => none
  | y :: r, x => if y = x then some 0 else (ixOf r x).map (· + 1)
theorem ixOf_get : ∀ {N : List Str} {x : Str} {i : Nat}, ixOf N x = some i → N[i]? = some x
  | [], _, _, h => by cases h
  | y :: r, x, i, h => by
    unfold ixOf at h
    split at h
    · rename_i e
      cases h
      rw [e]
      rfl
    · rw [Option.map_eq_some_iff] at h
      obtain ⟨j, h1, rfl⟩ := h
      simpa using ixOf_get h1
def notStar : Expr → Bool | .Starred _ _ => false | _ => true
def notSet : Expr → Bool | .Set _ _ _ => false | _ => true
def isComp : Expr → Bool | .ListComp .. => true | .SetComp .. => true | .DictComp .. => true | _ => false
def isTup : Expr → Bool | .Tuple _ _ _ => true | _ => false
def isSlice : Expr → Bool | .Slice _ _ _ _ => true | _ => false
def simpleO : Expr → Bool | .Name _ _ => true | .Subscript _ _ _ => true | _ => false
def noStar (es : List Expr) : Bool := es.all notStar
def kindIs (C : Ctx) (x : Str) (k : NameKind) : Bool := decide (C.sc.names.lookup x = some k)
def okName (x : Str) : Bool := !(x == ("__debug__" : Str)) && !(x == ("__classdict__" : Str))
def tyName (x : Str) : Option String :=
  if x = ("int" : Str) then some "int" else if x = ("bool" : Str) then some "bool" else if x = ("tuple" : Str) then some "tuple" else
  if x = ("list" : Str) then some "list" else if x = ("dict" : Str) then some "dict" else if x = ("str" : Str) then some "str" else none
def bltIn (C : Ctx) (x : Str) : Bool := C.blts.contains x && kindIs C x .globalImplicit
def cName (C : Ctx) (x : Str) : E :=
  if okName x then
    if kindIs C x .local || (kindIs C x .cell || kindIs C x .free) then match ixOf C.N x with | some i => .var i | none => .bad
    else if kindIs C x .globalImplicit then match C.cons.lookup x with
      | some d => .lit d
      | none => if C.blts.contains x then match tyName x with | some n => .lit (.ty n) | none => .bad else .bad
    else .bad
  else .bad
def cConst : Const → E
  | .none => .lit .non
  | .bool b => .lit (.bl b)
  | .int i => .lit (.int i)
  | .str x => .lit (.str x)
  | _ => .bad
def bopOf : Operator → Option Bop
  | .Add => some .add | .Sub => some .sub | .Mult => some .mul | .FloorDiv => some .fdiv | .Mod => some .mod | .Pow => some .pow
  | _ => none
def copOf : CmpOp → Cop
  | .Eq => .eq | .NotEq => .ne | .Lt => .lt | .LtE => .le | .Gt => .gt | .GtE => .ge | .In => .inn | .NotIn => .nin | .Is => .isx | .IsNot => .isn
def cB (r : Expr → E) (o : PySem.BoolOp) : List Expr → E
  | [] => .bad
  | [e] => r e
  | e :: e' :: es => match o with | .And => .andE (r e) (cB r o (e' :: es)) | .Or => .orE (r e) (cB r o (e' :: es))
def cCmp (r : Expr → E) (a : Expr) (ops : List CmpOp) (bs : List Expr) : E := match ops, bs with
  | [o], [b] => if behindInMarks (cpOf (copOf o)) b then .bad else .cmp (copOf o) (r a) (r b)
  | [o, o'], [b, c] => if lastMarks [cpOf (copOf o), cpOf (copOf o')] [b, c] then .bad else .chain (copOf o) (copOf o') (r a) (r b) (r c)
  | _, _ => .bad
def cEs (r : Expr → E) : List Expr → Es
  | [] => .nil
  | e :: es => .cons (r e) (cEs r es)
def fz (C : Ctx) (p : Pos) : Bool := !(C.mu.contains (p.line, p.col))
def cO (r : Expr → E) : Option Expr → Es
  | none => .nil
  | some e => .cons (r e) .nil
/-- range(..) -/
def rgArgs (C : Ctx) : Expr → List Expr
  | .Call (.Name x _) args [] _ => if x = ("range" : Str) ∧ bltIn C x = true ∧ noStar args = true then args else []
  | _ => []
def cListOf (C : Ctx) (r : Expr → E) (p : Pos) (a : Expr) : E := match rgArgs C a with
  | [b] => .new (fz C p) (.listRg (.lit (.int 0)) (r b))
  | [b, c] => .new (fz C p) (.listRg (r b) (r c))
  | _ => .new (fz C p) (.listOf (r a))
def allBlt : List Blt := [.len, .abs, .int, .max, .min, .sum, .all, .any, .isinst, .repr, .tuple]
def bltOf (x : Str) : Option Blt := allBlt.find? fun b => decide (nmOf b = x)
def allMth : List Mth := [.append, .extend, .count, .index, .insert]
def mthOf (x : Str) : Option Mth := allMth.find? fun b => decide (mnOf b = x)
def cNameCall (C : Ctx) (r : Expr → E) (p : Pos) (x : Str) (a : Expr) (as : List Expr) : E :=
  if (x == ("__debug__" : Str)) || !noStar (a :: as) then .bad else
  match C.defs.lookup x with
  | some n => if kindIs C x .globalImplicit then .call n (cEs r (a :: as)) else .bad
  | none => if bltIn C x then
      if x = ("list" : Str) then (match as with | [] => cListOf C r p a | _ => .bad) else
      if x = ("sorted" : Str) then (match as with | [] => .new (fz C p) (.sorted (r a)) | _ => .bad) else
      match bltOf x with | some b => .blt b (cEs r (a :: as)) | none => .bad
    else .bad
def cMethCall (C : Ctx) (r : Expr → E) (p : Pos) (o : Expr) (m : Str) (ap : Pos) (a : Expr) (as : List Expr) : E :=
  if simpleO o && (noStar (a :: as) && (ap.endLine == p.line && decide ((a :: as).length < 28))) then match mthOf m with | some k => .mth k (r o) (cEs r (a :: as)) | none => .bad else .bad
def cCall (C : Ctx) (r : Expr → E) (p : Pos) (f : Expr) (args : List Expr) (kws : List Keyword) : E := match kws, args with
  | [], a :: as => (match f with
    | .Name x _ => cNameCall C r p x a as
    | .Attribute o m ap => cMethCall C r p o m ap a as
    | _ => .bad)
  | _, _ => .bad
def cSeqI (C : Ctx) (r : Expr → E) (tup : Bool) (it : Expr) : I := match rgArgs C it with
  | [b] => .range (.lit (.int 0)) (r b)
  | [b, c] => .range (r b) (r c)
  | _ => match it with
    | .Call (.Name x _) args kws _ => if tup && (bltIn C x && noStar args) then
        (match kws, args with
        | [], [a] => if x = ("enumerate" : Str) then .enum (r a) else .seq (r it)
        | [], [a, b] => if x = ("zip" : Str) then .zip (r a) (r b) else .seq (r it)
        | _, _ => .seq (r it))
      else .seq (r it)
    | _ => .seq (r it)
def fnB (C : Ctx) (x : Str) : Bool := match C.raw with
  | none => true
  | some s => s.names.lookup x == some .cell
def cNm (C : Ctx) (x : Str) : Option Nat := if (kindIs C x .local || kindIs C x .cell) && (fnB C x || kindIs C x .local) then ixOf C.N x else none
def cNms (C : Ctx) : List Expr → Option (List Nat)
  | [] => some []
  | .Name x _ :: r => (cNm C x).bind fun i => (cNms C r).map fun is => i :: is
  | _ :: _ => none
def cTg (C : Ctx) : Expr → Option Tg
  | .Name x _ => (cNm C x).map .name
  | .Tuple es _ _ => (cNms C es).map .tup
  | _ => none
def ownOf (N : List Str) (scope : Scope) : List (Str × Nat) := scope.names.filterMap fun y => if y.2 == .local || y.2 == .cell then (ixOf N y.1).map fun i => (y.1, i) else none
def Ctx.blk (C : Ctx) (scope : Scope) : Ctx := { C with sc := relS scope C.sc, raw := some scope, lam := false }
def Ctx.lamb (C : Ctx) (scope : Scope) : Ctx := { C with sc := scope, raw := some { kind := .function, names := [], isGenerator := false, isCoroutine := false }, lam := false }
def isNoArgs : Arguments → Bool
  | ⟨[], [], none, [], [], none, []⟩ => true
  | _ => false
def cLam (C : Ctx) (rE : Ctx → Expr → E) (f : Expr) (args : List Expr) (kws : List Keyword) : Option E := match kws, f, args with
  | [], .Name x _, [.Lambda ps body scope _] => (match C.mets.lookup x with
    | some mi => if C.lam && (kindIs C x .globalImplicit && (!(x == ("__debug__" : Str)) && (isNoArgs ps && LamX.lamSB C.sc scope))) then some (.met mi.tag mi.hs (rE (C.lamb scope) body)) else none
    | none => none)
  | _, _, _ => none
def one1 : Arguments → Option Arg
  | ⟨[], [a], none, [], [], none, []⟩ => some a
  | _ => none
/-- what is gathered -/
def cSrc (C : Ctx) (r : Expr → E) (a : Expr) : I := match rgArgs C a with
  | [b] => .range (.lit (.int 0)) (r b)
  | [b, c] => .range (r b) (r c)
  | _ => .seq (r a)
/-- sorted(.., key=lambda x: ..) -/
def cSortK (C : Ctx) (rE : Ctx → Expr → E) (f : Expr) (args : List Expr) (kws : List Keyword) : Option N := match f, args, kws with
  | .Name x _, [a], [⟨some k, .Lambda ps body scope _, _⟩] => if x = ("sorted" : Str) ∧ k = ("key" : Str) ∧ (C.lam && (bltIn C x && notStar a)) = true then
      match one1 ps with
      | some p => if lamS1B C.sc scope p.arg then (ixOf C.N p.arg).map fun i => .sortK (cSrc C (rE C) a) i (rE (C.lamb scope) body) else none
      | none => none
    else none
  | _, _, _ => none
def cIfs (r : Expr → E) : List Expr → Option Es
  | [] => some .nil
  | [c] => some (.cons (r c) .nil)
  | _ => none
def cLC (C : Ctx) (rE rT : Ctx → Expr → E) (elt : Expr) (gens : List Comprehension) (scope : Scope) : Option N := match gens with
  | [g] => if g.is_async = 0 ∧ blkC C.N C.sc scope (ownOf C.N scope) = true ∧ notSet g.iter = true then
      (cTg (C.blk scope) g.target).bind fun t => if (tgIx t).all (fun i => ((ownOf C.N scope).map (·.2)).contains i) then
        (cIfs (rT (C.blk scope)) g.ifs).map fun cs => .comp ((ownOf C.N scope).map (·.2)) (rE (C.blk scope) elt) t (cSeqI C (rE C) (isTup g.target) g.iter) cs
      else none
    else none
  | _ => none
/-- two `for` -/
def cLC2 (C : Ctx) (rE rT : Ctx → Expr → E) (elt : Expr) (gens : List Comprehension) (scope : Scope) : Option N := match gens with
  | [⟨tg, iter, ifs, 0⟩, ⟨tg1, iter1, ifs1, 0⟩] => if blkC C.N C.sc scope (ownOf C.N scope) = true ∧ notSet iter = true ∧ notSet iter1 = true then
      match cTg (C.blk scope) tg, cTg (C.blk scope) tg1, cIfs (rT (C.blk scope)) ifs, cIfs (rT (C.blk scope)) ifs1 with
      | some t, some t1, some cs, some cs1 => if (∀ i ∈ tgIx t, i ∈ (ownOf C.N scope).map (·.2)) ∧ (∀ i ∈ tgIx t1, i ∈ (ownOf C.N scope).map (·.2)) then
          some (.comp2 ((ownOf C.N scope).map (·.2)) (tgIx t1) (rE (C.blk scope) elt) t (cSeqI C (rE C) (isTup tg) iter) cs t1 (cSeqI (C.blk scope) (rE (C.blk scope)) (isTup tg1) iter1) cs1) else none
      | _, _, _, _ => none
    else none
  | _ => none
/-- xs[::-1] -/
def cRev (a : E) (lo hi : Option Expr) (s : Expr) : E := match lo, hi with
  | none, none => (match s with
    | .UnaryOp o c _ => (match o with
      | .USub => (match c with | .Constant (.int i) _ _ => if i = 1 then .rev a else .bad | _ => .bad)
      | _ => .bad)
    | _ => .bad)
  | _, _ => .bad
def stepE (rE rT : Ctx → Expr → E) (C : Ctx) (e : Expr) : E := match e with
  | .Name x _ => cName C x
  | .Constant c _ _ => cConst c
  | .BinOp a o b _ => (match bopOf o with | some o => .bin o (rE C a) (rE C b) | none => .bad)
  | .UnaryOp o a _ => (match o with | .USub => .neg (rE C a) | .Not => .notE (rE C a) | _ => .bad)
  | .BoolOp o es _ => cB (rE C) o es
  | .IfExp c a b _ => .ite (rT C c) (rE C a) (rE C b)
  | .Compare a ops bs _ => cCmp (rE C) a ops bs
  | .Tuple es _ _ => if noStar es then .tup (cEs (rE C) es) else .bad
  | .List es p => if noStar es then .new (fz C p) (.disp (cEs (rE C) es)) else .bad
  | .Dict ks vs p => (match ks, vs with | [], [] => .new (fz C p) .dict0 | _, _ => .bad)
  | .ListComp elt gens scope p => (match cLC C rE rT elt gens scope with | some n => .new (fz C p) n | none => match cLC2 C rE rT elt gens scope with | some n => .new (fz C p) n | none => .bad)
  | .Call f args kws p => (match cLam C rE f args kws with | some e => e | none => match cSortK C rE f args kws with | some n => .new (fz C p) n | none => cCall C (rE C) p f args kws)
  | .Subscript a b _ => (match b with
    | .Slice lo hi st _ => (match st with | none => .slc (rE C a) (cO (rE C) lo) (cO (rE C) hi) | some s => cRev (rE C a) lo hi s)
    | b => .idx (rE C a) (rE C b))
  | _ => .bad
def stepT (rE rT : Ctx → Expr → E) (C : Ctx) (e : Expr) : E := match e with
  | .UnaryOp o a _ => (match o with | .Not => .notE (rT C a) | _ => .tru (rE C e))
  | .BoolOp o es _ => cB (rT C) o es
  | .Compare a ops bs _ => cCmp (rE C) a ops bs
  | .IfExp _ _ _ _ => .bad
  | e => .tru (rE C e)
def cET : Nat → (Ctx → Expr → E) × (Ctx → Expr → E)
  | 0 => (fun _ _ => .bad, fun _ _ => .bad)
  | n + 1 => let p := cET n; (stepE p.1 p.2, stepT p.1 p.2)

/-! ### the context as it is -/
variable [TabC]
structure CxOk (C : Ctx) (X : Cx) (W : WX) (cl : Cl) : Prop where
  N : X.N = C.N
  nd : C.N.Nodup
  sc : X.env.scope = C.sc
  fn : ∀ x, fnB C x = true → X.fn x = true
  calm : X.calm = true
  units : X.A.units + 64 < cLine
  blt : ∀ x ∈ C.blts, X.mg x = none
  con : ∀ x d, C.cons.lookup x = some d → ∃ v u, X.mg x = some u ∧ RelV v u ∧ ∀ φ H, Rep X.K φ H d v
  defs : ∀ x n, C.defs.lookup x = some n → ∃ k f fd ps, FnOk X.prog X.w X.K X.mg X.base (L2.CX X.prog X.w) k f fd ps (spG X.K (cl.call n)) ∧ Room k X.A ∧ X.mg x = some (.ref f) ∧ PySem.W.keepIn X.K (.ref f) = true ∧ Binds X.K fd ps []
  exs : ∀ x ∈ C.exs, ∃ A, ExcOk X.K x A ∧ X.mg x = some (.ref A)
  mets : ∀ x mi, C.mets.lookup x = some mi → MetOk X.K X.mg x mi
  lam : C.lam = true → LamOk X
  low : cl.hi = true → ∃ k, Room (k + 2) X.A ∧ ∀ x n, C.defs.lookup x = some n → ∃ f fd ps, FnOk X.prog X.w X.K X.mg X.base (L2.CX X.prog X.w) k f fd ps (spG X.K (cl.low n)) ∧ X.mg x = some (.ref f) ∧ PySem.W.keepIn X.K (.ref f) = true ∧ Binds X.K fd ps []
  tk : Takes X W
def SE (r : Ctx → Expr → E) : Prop := ∀ cl X W C e, CxOk C X W cl → PE X e (tE X.K W (evE cl (r C e)))
def STt (r : Ctx → Expr → E) : Prop := ∀ cl X W C e, CxOk C X W cl → PT X e (tT X.K W (evE cl (r C e)))
section
variable {X : Cx} {W : WX} {C : Ctx} {cl : Cl} {a b e : Expr} {es : List Expr} {pos : Pos}
theorem pe_bad : PE X e (tE X.K W (evE cl .bad)) := ⟨fun _ _ _ _ _ _ h => by
  obtain ⟨L, φ, M, lr, mh, p⟩ := h
  exact False.elim p⟩
theorem pt_bad : PT X e (tT X.K W (evE cl .bad)) := ⟨fun _ _ _ _ _ _ h => by
  obtain ⟨L, φ, M, lr, mh, p⟩ := h
  exact False.elim p⟩
theorem pw_bad : PW X e (tT X.K W (evE cl .bad)) := ⟨fun _ _ _ _ _ _ _ h => by
  obtain ⟨L, φ, M, lr, mh, p⟩ := h
  exact False.elim p⟩
theorem star_cons {env : Env} (h : notStar a = true) : starEach (a :: es) env = (false, eval a env) :: starEach es env := by
  cases a <;> first | rfl | cases h
theorem star_none {env : Env} : ∀ {es : List Expr}, noStar es = true → (backTo pos (starEach es env)).any (·.1) = false ∧ (backTo pos (starEach es env)).all (fun x => !x.1) = true
  | [], _ => ⟨rfl, rfl⟩
  | a :: es, h => by
    unfold noStar at h
    rw [List.all_cons, Bool.and_eq_true] at h
    obtain ⟨i1, i2⟩ := star_none (es := es) h.2
    rw [star_cons h.1]
    exact ⟨by simpa [backTo] using i1, by simpa [backTo] using i2⟩
theorem CxOk.gl (c : CxOk C X W cl) {x : Str} (h : kindIs C x .globalImplicit = true) : Gl X x := by
  have := of_decide_eq_true h
  rw [← c.sc] at this
  exact this
theorem CxOk.bn (c : CxOk C X W cl) {x : Str} (h : bltIn C x = true) : BN X x := by
  unfold bltIn at h
  rw [Bool.and_eq_true] at h
  exact ⟨c.gl h.2, c.blt x (by simpa using h.1)⟩
theorem CxOk.look (c : CxOk C X W cl) {x : Str} {k : NameKind} (h : kindIs C x k = true) : X.env.scope.names.lookup x = some k := by
  rw [c.sc]
  exact of_decide_eq_true h
theorem tyName_is {x : Str} {n : String} (h : tyName x = some n) : bootBuiltins x = some (.type n) ∧ x ≠ "__name__" ∧ (x == ("__debug__" : Str)) = false := by
  unfold tyName at h
  split at h
  · rename_i e; cases h; subst e; exact ⟨by decide +kernel, by decide, by decide⟩
  split at h
  · rename_i e; cases h; subst e; exact ⟨by decide +kernel, by decide, by decide⟩
  split at h
  · rename_i e; cases h; subst e; exact ⟨by decide +kernel, by decide, by decide⟩
  split at h
  · rename_i e; cases h; subst e; exact ⟨by decide +kernel, by decide, by decide⟩
  split at h
  · rename_i e; cases h; subst e; exact ⟨by decide +kernel, by decide, by decide⟩
  split at h
  · rename_i e; cases h; subst e; exact ⟨by decide +kernel, by decide, by decide⟩
  · cases h
theorem ok_name (c : CxOk C X W cl) (x : Str) : PE X (.Name x pos) (tE X.K W (evE cl (cName C x))) := by
  unfold cName
  split
  · rename_i hn
    unfold okName at hn
    rw [Bool.and_eq_true, Bool.not_eq_true', Bool.not_eq_true'] at hn
    split
    · rename_i hk
      split
      · rename_i i hi
        refine me_var (by rw [c.N]; exact ixOf_get hi) ?_ hn.1 hn.2
        rw [Bool.or_eq_true, Bool.or_eq_true] at hk
        rcases hk with hk | hk | hk
        · exact .inl (c.look hk)
        · exact .inr (.inl (c.look hk))
        · exact .inr (.inr (c.look hk))
      · exact pe_bad
    · split
      · rename_i hg
        split
        · rename_i d hd
          obtain ⟨v, u, h1, h2, h3⟩ := c.con x d hd
          exact me_glob (c.gl hg) h1 h2 h3 hn.1
        · split
          · rename_i hb
            split
            · rename_i n ht
              obtain ⟨h1, h2, h3⟩ := tyName_is ht
              exact me_ty (c.gl hg) (c.blt x (by simpa using hb)) h1 h2 h3
            · exact pe_bad
          · exact pe_bad
      · exact pe_bad
  · exact pe_bad
theorem ok_const (k : Const) (j : Nat) : PE X (.Constant k j pos) (tE X.K W (evE cl (cConst k))) := by
  cases k with
  | none => exact me_non
  | bool b => exact me_bl
  | int i => exact me_int
  | str x => exact me_str
  | _ => exact pe_bad
theorem bopOf_is {o : Operator} {p : Bop} (h : bopOf o = some p) : o = opOf p := by
  cases o <;> cases h <;> rfl
theorem copOf_is (o : CmpOp) : cpOf (copOf o) = o := by cases o <;> rfl
theorem ok_bool {r : Expr → E} (h : ∀ e, PE X e (tE X.K W (evE cl (r e)))) (o : PySem.BoolOp) : ∀ es : List Expr, PE X (.BoolOp o es pos) (tE X.K W (evE cl (cB r o es)))
  | [] => pe_bad
  | [e] => me_one (h e)
  | e :: e' :: es => by
    cases o with
    | And => exact me_and (h e) (ok_bool h .And (e' :: es))
    | Or => exact me_or (h e) (ok_bool h .Or (e' :: es))
theorem ok_boolW {r : Expr → E} (h : ∀ e, PT X e (tT X.K W (evE cl (r e)))) (o : PySem.BoolOp) : ∀ es : List Expr, PW X (.BoolOp o es pos) (tT X.K W (evE cl (cB r o es)))
  | [] => pw_bad
  | [e] => by
    cases o with
    | And => exact mw_and1 (h e)
    | Or => exact mw_or1 (h e)
  | e :: e' :: es => by
    cases o with
    | And => exact mw_and (h e) (ok_boolW h .And (e' :: es))
    | Or => exact mw_or (h e) (ok_boolW h .Or (e' :: es))
theorem ok_cmp (c : CxOk C X W cl) {r : Expr → E} (h : ∀ e, PE X e (tE X.K W (evE cl (r e)))) (a : Expr) (ops : List CmpOp) (bs : List Expr) : PE X (.Compare a ops bs pos) (tE X.K W (evE cl (cCmp r a ops bs))) := by
  unfold cCmp
  split
  · rename_i o b
    split
    · exact pe_bad
    · rename_i hm
      have q := me_cmp (pos := pos) (o := copOf o) c.units (h a) (h b) (by simpa using hm)
      rw [copOf_is] at q
      exact q
  · rename_i o o' b c'
    split
    · exact pe_bad
    · rename_i hm
      have q := me_chain (pos := pos) (o := copOf o) (o' := copOf o') c.units (h a) (h b) (h c') (by simpa using hm)
      rw [copOf_is, copOf_is] at q
      exact q
  · exact pe_bad
theorem ok_cmpT (c : CxOk C X W cl) {r : Expr → E} (h : ∀ e, PE X e (tE X.K W (evE cl (r e)))) (a : Expr) (ops : List CmpOp) (bs : List Expr) : PT X (.Compare a ops bs pos) (tT X.K W (evE cl (cCmp r a ops bs))) := by
  unfold cCmp
  split
  · rename_i o b
    split
    · exact pt_bad
    · rename_i hm
      have q := mt_cmp (pos := pos) (o := copOf o) c.units (h a) (h b) (by simpa using hm)
      rw [copOf_is] at q
      exact q
  · rename_i o o' b c'
    split
    · exact pt_bad
    · rename_i hm
      have q := mt_chain (pos := pos) (o := copOf o) (o' := copOf o') c.units (h a) (h b) (h c') (by simpa using hm)
      rw [copOf_is, copOf_is] at q
      exact q
  · exact pt_bad
theorem ok_es {r : Expr → E} (h : ∀ e, PE X e (tE X.K W (evE cl (r e)))) : ∀ es : List Expr, noStar es = true → PA X es (tEs X.K W (evEs cl (cEs r es)))
  | [], _ => ma_nil
  | e :: es, hs => by
    unfold noStar at hs
    rw [List.all_cons, Bool.and_eq_true] at hs
    exact ma_cons (h e) (ok_es h es hs.2) (star_cons hs.1)
theorem ok_o {r : Expr → E} (h : ∀ e, PE X e (tE X.K W (evE cl (r e)))) : ∀ o : Option Expr, PO X o (tP X.K W (evP cl (cO r o)))
  | none => mp_none
  | some e => mp_some (h e)
theorem rgArgs_is {it : Expr} {x : Expr} {xs : List Expr} (h : rgArgs C it = x :: xs) : ∃ p q, it = .Call (.Name "range" p) (x :: xs) [] q ∧ bltIn C "range" = true ∧ noStar (x :: xs) = true := by
  unfold rgArgs at h
  split at h
  · split at h
    · rename_i hk
      obtain ⟨rfl, h1, h2⟩ := hk
      subst h
      exact ⟨_, _, rfl, h1, h2⟩
    · cases h
  · cases h
theorem noStar1 {a : Expr} (h : noStar [a] = true) : notStar a = true := by simpa [noStar] using h
theorem noStar2 {a b : Expr} (h : noStar [a, b] = true) : notStar a = true ∧ notStar b = true := by simpa [noStar] using h
theorem ok_listOf (c : CxOk C X W cl) {r : Expr → E} (h : ∀ e, PE X e (tE X.K W (evE cl (r e)))) {p q : Pos} (hb : BN X "list") (hs : notStar a = true) : PE X (.Call (.Name "list" p) [a] [] q) (tE X.K W (evE cl (cListOf C r q a))) := by
  unfold cListOf
  split
  · rename_i b hr
    obtain ⟨p2, q2, rfl, h1, h2⟩ := rgArgs_is hr
    exact me_new (mn_listRg1 c.calm hb (c.bn h1) (h b) rfl (star_cons (noStar1 h2)))
  · rename_i b d hr
    obtain ⟨p2, q2, rfl, h1, h2⟩ := rgArgs_is hr
    exact me_new (mn_listRg2 c.calm hb (c.bn h1) (h b) (h d) rfl (star_cons (noStar2 h2).1) (star_cons (noStar2 h2).2))
  · exact me_new (mn_listOf hb (h a) (star_cons hs))
theorem bltOf_is {x : Str} {f : Blt} (h : bltOf x = some f) : nmOf f = x := by
  have := List.find?_some h
  exact of_decide_eq_true this
theorem mthOf_is {x : Str} {f : Mth} (h : mthOf x = some f) : mnOf f = x := by
  have := List.find?_some h
  exact of_decide_eq_true this
theorem ok_nameCall (c : CxOk C X W cl) {r : Expr → E} (h : ∀ e, PE X e (tE X.K W (evE cl (r e)))) {p : Pos} (x : Str) (a : Expr) (as : List Expr) : PE X (.Call (.Name x p) (a :: as) [] pos) (tE X.K W (evE cl (cNameCall C r pos x a as))) := by
  unfold cNameCall
  split
  · exact pe_bad
  · rename_i hn
    rw [Bool.or_eq_true, not_or, Bool.not_eq_true', Bool.not_eq_false] at hn
    obtain ⟨hd, hs⟩ := hn
    have hs' := hs
    unfold noStar at hs'
    rw [List.all_cons, Bool.and_eq_true] at hs'
    have hd' : (x == ("__debug__" : Str)) = false := by simpa using hd
    split
    · rename_i n hn
      split
      · rename_i hg
        obtain ⟨k, f, fd, ps, F, hr, hm, hk, hb⟩ := c.defs x n hn
        exact me_call F hr (c.gl hg) hm hk hb c.tk (ok_es h _ hs) hd' (star_cons hs'.1) (star_none hs'.2).1
      · exact pe_bad
    · split
      · rename_i hb
        have bn := c.bn hb
        split
        · rename_i e
          subst e
          split
          · exact ok_listOf c h bn hs'.1
          · exact pe_bad
        · split
          · rename_i e
            subst e
            split
            · exact me_new (mn_sorted bn (h a) (star_cons hs'.1))
            · exact pe_bad
          · split
            · rename_i f hf
              have e := bltOf_is hf
              subst e
              exact me_blt c.calm bn (ok_es h _ hs) (star_cons hs'.1) (star_none hs'.2).1
            · exact pe_bad
      · exact pe_bad
theorem base_ok {o : Expr} {m : Str} {env : Env} (h : simpleO o = true) : attributeBase o m env (eval o env) = eval o env := by
  cases o <;> first | rfl | cases h
theorem ok_methCall (c : CxOk C X W cl) {r : Expr → E} (h : ∀ e, PE X e (tE X.K W (evE cl (r e)))) {ap : Pos} (o : Expr) (m : Str) (a : Expr) (as : List Expr) : PE X (.Call (.Attribute o m ap) (a :: as) [] pos) (tE X.K W (evE cl (cMethCall C r pos o m ap a as))) := by
  unfold cMethCall
  split
  · rename_i hk
    simp only [Bool.and_eq_true, decide_eq_true_eq] at hk
    obtain ⟨h1, hs, h2, h3⟩ := hk
    have hs' := hs
    unfold noStar at hs'
    rw [List.all_cons, Bool.and_eq_true] at hs'
    split
    · rename_i f hf
      have e := mthOf_is hf
      subst e
      refine me_mth (h o) (ok_es h _ hs) (base_ok h1) ?_ (by simpa using h2) (star_cons hs'.1) (star_none hs'.2).1
      rw [(star_none hs).2]
      simp only [Bool.true_and, Bool.and_eq_true, decide_eq_true_eq]
      exact ⟨rfl, by simpa using Nat.lt_of_lt_of_le h3 (by decide)⟩
    · exact pe_bad
  · exact pe_bad
theorem ok_call (c : CxOk C X W cl) {r : Expr → E} (h : ∀ e, PE X e (tE X.K W (evE cl (r e)))) (f : Expr) (args : List Expr) (kws : List Keyword) : PE X (.Call f args kws pos) (tE X.K W (evE cl (cCall C r pos f args kws))) := by
  unfold cCall
  split
  · split
    · exact ok_nameCall c h _ _ _
    · exact ok_methCall c h _ _ _ _
    · exact pe_bad
  · exact pe_bad
theorem ok_seqI (c : CxOk C X W cl) {r : Expr → E} (h : ∀ e, PE X e (tE X.K W (evE cl (r e)))) (tg it : Expr) : PI X tg it (tI X.K W (evI cl (cSeqI C r (isTup tg) it))) := by
  unfold cSeqI
  split
  · rename_i b hr
    obtain ⟨p2, q2, rfl, h1, h2⟩ := rgArgs_is hr
    exact mi_range1 (c.bn h1) (h b) (star_cons (noStar1 h2))
  · rename_i b d hr
    obtain ⟨p2, q2, rfl, h1, h2⟩ := rgArgs_is hr
    exact mi_range2 (c.bn h1) (h b) (h d) (star_cons (noStar2 h2).1) (star_cons (noStar2 h2).2)
  · split
    · split
      · rename_i hk
        simp only [Bool.and_eq_true] at hk
        obtain ⟨ht, hb, hs⟩ := hk
        cases tg <;> first | cases ht | skip
        split
        · split
          · rename_i e
            subst e
            exact mi_enum (c.bn hb) (h _) (star_cons (noStar1 hs))
          · exact mi_seq (h _)
        · split
          · rename_i e
            subst e
            exact mi_zip (c.bn hb) (h _) (h _) (star_cons (noStar2 hs).1) (star_cons (noStar2 hs).2)
          · exact mi_seq (h _)
        · exact mi_seq (h _)
      · exact mi_seq (h _)
    · exact mi_seq (h _)
theorem notSet_is {it : Expr} {env : Env} (h : notSet it = true) : ∀ x, foldedSetIterable it env x = pure x := by
  cases it <;> first | (intro x; rfl) | cases h
theorem ok_nm (c : CxOk C X W cl) {x : Str} {i : Nat} (h : cNm C x = some i) : X.N[i]? = some x ∧ Loc X.env.scope x ∧ (X.fn x = true ∨ X.env.scope.names.lookup x = some .local) := by
  unfold cNm at h
  split at h
  · rename_i hk
    simp only [Bool.and_eq_true, Bool.or_eq_true] at hk
    refine ⟨by rw [c.N]; exact ixOf_get h, ?_, ?_⟩
    · rcases hk.1 with k | k
      · exact .inl (c.look k)
      · exact .inr (c.look k)
    · rcases hk.2 with k | k
      · exact .inl (c.fn x k)
      · exact .inr (c.look k)
  · cases h
theorem ok_nms (c : CxOk C X W cl) : ∀ {es : List Expr} {is : List Nat}, cNms C es = some is → PGs X es (gsT X.K is) ∧ (assignEach es X.env).length = is.length ∧ (assignEach es X.env).findIdx? (·.1) = none
  | [], _, h => by
    cases h
    exact ⟨mgs_nil, rfl, rfl⟩
  | e :: r, is, h => by
    cases e <;> first | cases h | skip
    rename_i x p
    simp only [cNms, Option.bind_eq_some_iff, Option.map_eq_some_iff] at h
    obtain ⟨i, hi, is', hr, rfl⟩ := h
    obtain ⟨h1, h2, h3⟩ := ok_nms c hr
    obtain ⟨n1, n2, n3⟩ := ok_nm c hi
    have ea : assignEach (.Name x p :: r) X.env = (false, assign (.Name x p) X.env) :: assignEach r X.env := rfl
    refine ⟨mgs_cons (by rw [c.N]; exact c.nd) n1 n2 n3 h1 (by rw [ea]; rfl), ?_, ?_⟩
    · rw [ea, List.length_cons, h2, List.length_cons]
    · rw [ea, List.findIdx?_cons]
      simp [h3]
theorem ok_tg (c : CxOk C X W cl) {tg : Expr} {t : Tg} (h : cTg C tg = some t) : PG X tg (gT X.K t) := by
  unfold cTg at h
  split at h
  · rw [Option.map_eq_some_iff] at h
    obtain ⟨i, hi, rfl⟩ := h
    obtain ⟨n1, n2, n3⟩ := ok_nm c hi
    exact mg_name (by rw [c.N]; exact c.nd) n1 n2 n3
  · rw [Option.map_eq_some_iff] at h
    obtain ⟨is, hi, rfl⟩ := h
    obtain ⟨h1, h2, h3⟩ := ok_nms c hi
    exact mg_tup c.calm h1 h2 h3
  · cases h
theorem CxOk.blk (c : CxOk C X W cl) (scope : Scope) (s : Shared) (H : Hp) (Cc : Addr) (l : List (Str × Addr)) (fp : List Addr) : CxOk (C.blk scope) (X.blk s H scope (compEnvC scope l Cc X.env) fp) W0 cl where
  N := c.N
  nd := c.nd
  sc := by
    show relS scope X.env.scope = relS scope C.sc
    rw [c.sc]
  fn := fun x h => h
  calm := c.calm
  units := c.units
  blt := c.blt
  con := c.con
  defs := c.defs
  exs := c.exs
  mets := c.mets
  lam := fun h => by cases h
  low := c.low
  tk := takes0
theorem CxOk.lamb (c : CxOk C X W cl) (scope : Scope) {k : Nat} {A : Around} {outer : List Env} {s : Shared} {H : Hp} {Ex : XK} {f c' : Addr} (hr : Room k (A.deeper (LamX.lamEnv X scope s.heap.objs.size f c')))
    (hd : ∀ x n, C.defs.lookup x = some n → ∃ f fd ps, FnOk X.prog X.w X.K X.mg X.base (L2.CX X.prog X.w) k f fd ps (spG X.K (cl.low n)) ∧ X.mg x = some (.ref f) ∧ PySem.W.keepIn X.K (.ref f) = true ∧ Binds X.K fd ps []) :
    CxOk (C.lamb scope) (LamX.lamCx X A outer s H Ex scope f c') (fun c d _ H => Ex c d H) cl.lower where
  N := c.N
  nd := c.nd
  sc := rfl
  fn := fun x h => by
    have z : (([] : List (Str × NameKind)).lookup x == some .cell) = true := h
    cases z
  calm := rfl
  units := by
    have := hr.un
    show (A.deeper _).units + 64 < cLine
    omega
  blt := c.blt
  con := c.con
  defs := fun x n hn => by
    obtain ⟨f', fd, ps, F, hm, hk, hb⟩ := hd x n hn
    exact ⟨k, f', fd, ps, F, hr, hm, hk, hb⟩
  exs := c.exs
  mets := c.mets
  lam := fun h => by cases h
  low := fun h => by cases h
  tk := takes_of rfl rfl rfl rfl
structure LcOk (C : Ctx) (rE rT : Ctx → Expr → E) (elt tg iter : Expr) (ifs : List Expr) (scope : Scope) (n : N) (t : Tg) (cs : Es) : Prop where
  eq : n = .comp ((ownOf C.N scope).map (·.2)) (rE (C.blk scope) elt) t (cSeqI C (rE C) (isTup tg) iter) cs
  blk : blkC C.N C.sc scope (ownOf C.N scope) = true
  ns : notSet iter = true
  tg : cTg (C.blk scope) tg = some t
  ix : ∀ i ∈ tgIx t, i ∈ (ownOf C.N scope).map (·.2)
  cs : cIfs (rT (C.blk scope)) ifs = some cs
theorem cLC_is {rE rT : Ctx → Expr → E} {elt : Expr} {gens : List Comprehension} {scope : Scope} {n : N} (h : cLC C rE rT elt gens scope = some n) : ∃ tg iter ifs t cs, gens = [⟨tg, iter, ifs, 0⟩] ∧ LcOk C rE rT elt tg iter ifs scope n t cs := by
  unfold cLC at h
  split at h
  · rename_i g
    obtain ⟨tg, iter, ifs, as⟩ := g
    split at h
    · rename_i hk
      obtain ⟨h0, h1, h2⟩ := hk
      replace h0 : as = 0 := h0
      subst h0
      rw [Option.bind_eq_some_iff] at h
      obtain ⟨t, ht, h⟩ := h
      split at h
      · rename_i hx
        rw [Option.map_eq_some_iff] at h
        obtain ⟨cs, hc, rfl⟩ := h
        refine ⟨tg, iter, ifs, t, cs, rfl, rfl, h1, h2, ht, fun i hi => ?_, hc⟩
        have := List.all_eq_true.mp hx i hi
        simpa using this
      · cases h
    · cases h
  · cases h
theorem ok_ifs {r : Expr → E} (h : ∀ e, PT X e (tT X.K W (evE cl (r e)))) {ifs : List Expr} {cs : Es} (e : cIfs r ifs = some cs) : PTs X ifs (tT X.K W (evC cl cs)) := by
  unfold cIfs at e
  split at e
  · cases e
    exact mts_nil
  · cases e
    exact mts_one (h _)
  · cases e
theorem ok_lc (c : CxOk C X W cl) {rE rT : Ctx → Expr → E} (hE : SE rE) (hT : STt rT) {elt : Expr} {gens : List Comprehension} {scope : Scope} {n : N} (h : cLC C rE rT elt gens scope = some n) : PE X (.ListComp elt gens scope pos) (tN X.K W (evN cl n)) := by
  obtain ⟨tg, iter, ifs, t, cs, rfl, k⟩ := cLC_is h
  rw [k.eq]
  exact mn_lc c.calm (by rw [c.N]; exact c.nd) (ok_seqI c (fun e => hE cl X W C e c) tg iter) (by rw [c.N, c.sc]; exact blkOk_by k.blk) k.ix (fun s H Cc l fp => ok_tg (c.blk scope s H Cc l fp) k.tg)
    (fun s H Cc l fp => ok_ifs (fun e => hT _ _ _ _ e (c.blk scope s H Cc l fp)) k.cs) (fun s H Cc l fp => hE _ _ _ _ elt (c.blk scope s H Cc l fp)) (notSet_is k.ns)
end
theorem cLC2_is {rE rT : Ctx → Expr → E} {C : Ctx} {elt : Expr} {gens : List Comprehension} {scope : Scope} {n : N} (h : cLC2 C rE rT elt gens scope = some n) : ∃ tg iter ifs tg1 iter1 ifs1 t cs t1 cs1, gens = [⟨tg, iter, ifs, 0⟩, ⟨tg1, iter1, ifs1, 0⟩] ∧
    n = .comp2 ((ownOf C.N scope).map (·.2)) (tgIx t1) (rE (C.blk scope) elt) t (cSeqI C (rE C) (isTup tg) iter) cs t1 (cSeqI (C.blk scope) (rE (C.blk scope)) (isTup tg1) iter1) cs1 ∧
    blkC C.N C.sc scope (ownOf C.N scope) = true ∧ notSet iter = true ∧ notSet iter1 = true ∧ cTg (C.blk scope) tg = some t ∧ cTg (C.blk scope) tg1 = some t1 ∧ cIfs (rT (C.blk scope)) ifs = some cs ∧ cIfs (rT (C.blk scope)) ifs1 = some cs1 ∧
    (∀ i ∈ tgIx t, i ∈ (ownOf C.N scope).map (·.2)) ∧ (∀ i ∈ tgIx t1, i ∈ (ownOf C.N scope).map (·.2)) := by
  unfold cLC2 at h
  split at h
  · split at h
    · rename_i hk
      split at h
      · rename_i t t1 cs cs1 ht ht1 hcs hcs1
        split at h
        · rename_i hx
          cases h
          exact ⟨_, _, _, _, _, _, _, _, _, _, rfl, rfl, hk.1, hk.2.1, hk.2.2, ht, ht1, hcs, hcs1, hx.1, hx.2⟩
        · cases h
      · cases h
    · cases h
  · cases h
theorem ok_lc2 {X : Cx} {W : WX} {C : Ctx} {cl : Cl} {pos : Pos} (c : CxOk C X W cl) {rE rT : Ctx → Expr → E} (hE : SE rE) (hT : STt rT) {elt : Expr} {gens : List Comprehension} {scope : Scope} {n : N} (h : cLC2 C rE rT elt gens scope = some n) : PE X (.ListComp elt gens scope pos) (tN X.K W (evN cl n)) := by
  unfold cLC2 at h
  split at h
  · rename_i tg iter ifs tg1 iter1 ifs1
    split at h
    · rename_i hk
      obtain ⟨h0, h1, h2⟩ := hk
      split at h
      · rename_i t t1 cs cs1 ht ht1 hcs hcs1
        split at h
        · rename_i hx
          cases h
          exact mn_lc2 c.calm (by rw [c.N]; exact c.nd) (ok_seqI c (fun e => hE cl X W C e c) tg iter) (by rw [c.N, c.sc]; exact blkOk_by h0) hx.1 (fun _ h => h) hx.2 (fun s H Cc l fp => ok_tg (c.blk scope s H Cc l fp) ht)
            (fun s H Cc l fp => ok_ifs (fun e => hT _ _ _ _ e (c.blk scope s H Cc l fp)) hcs) (fun s H Cc l fp => ok_seqI (c.blk scope s H Cc l fp) (fun e => hE _ _ _ _ e (c.blk scope s H Cc l fp)) tg1 iter1)
            (fun s H Cc l fp => ok_tg (c.blk scope s H Cc l fp) ht1) (fun s H Cc l fp => ok_ifs (fun e => hT _ _ _ _ e (c.blk scope s H Cc l fp)) hcs1) (fun s H Cc l fp => hE _ _ _ _ elt (c.blk scope s H Cc l fp)) (notSet_is h1) (fun _ => notSet_is h2)
        · cases h
      · cases h
    · cases h
  · cases h
theorem noArgs_is {ps : Arguments} (h : isNoArgs ps = true) : ps = noArgs := by
  unfold isNoArgs at h
  split at h
  · rfl
  · cases h
theorem ok_lam {X : Cx} {W : WX} {C : Ctx} {cl : Cl} (c : CxOk C X W cl) {rE : Ctx → Expr → E} (hE : SE rE) {f : Expr} {args : List Expr} {kws : List Keyword} {pos : Pos} {e : E} (h : cLam C rE f args kws = some e) : PE X (.Call f args kws pos) (tE X.K W (evE cl e)) := by
  unfold cLam at h
  split at h
  · rename_i x p ps body scope lpos
    split at h
    · rename_i mi hmi
      split at h
      · rename_i hk
        cases h
        simp only [Bool.and_eq_true, Bool.not_eq_true'] at hk
        obtain ⟨h1, h2, h3, h4, h5⟩ := hk
        cases noArgs_is h4
        have L : LamX.LamS X.env.scope scope := by
          rw [c.sc]
          exact LamX.lamS_by h5
        by_cases hh : cl.hi = true
        · obtain ⟨k, hr, hd⟩ := c.low hh
          exact me_met (k := k) (fun _ => ⟨hr, fun A outer s H Ex f c' hr2 => hE _ _ _ _ body (c.lamb scope hr2 hd)⟩) (c.mets x mi hmi) (c.lam h1) (c.gl h2) h3 L
        · exact me_met (k := 0) (fun z => absurd z hh) (c.mets x mi hmi) (c.lam h1) (c.gl h2) h3 L
      · cases h
    · cases h
  · cases h
theorem one1_is {ps : Arguments} {a : Arg} (h : one1 ps = some a) : ps = oneArg a := by
  unfold one1 at h
  split at h
  · cases h
    rfl
  · cases h
theorem ok_src {X : Cx} {W : WX} {C : Ctx} {cl : Cl} (c : CxOk C X W cl) {r : Expr → E} (h : ∀ e, PE X e (tE X.K W (evE cl (r e)))) (a : Expr) : PE X a (tSrc X.K W (evI cl (cSrc C r a))) := by
  unfold cSrc
  split
  · rename_i b hr
    obtain ⟨p2, q2, rfl, h1, h2⟩ := rgArgs_is hr
    exact ms_range1 (c.bn h1) (h b) (star_cons (noStar1 h2))
  · rename_i b d hr
    obtain ⟨p2, q2, rfl, h1, h2⟩ := rgArgs_is hr
    exact ms_range2 (c.bn h1) (h b) (h d) (star_cons (noStar2 h2).1) (star_cons (noStar2 h2).2)
  · exact ms_seq (h _)
theorem ok_sortK {X : Cx} {W : WX} {C : Ctx} {cl : Cl} (c : CxOk C X W cl) {rE : Ctx → Expr → E} (hE : SE rE) {f : Expr} {args : List Expr} {kws : List Keyword} {pos : Pos} {n : N} (h : cSortK C rE f args kws = some n) : PE X (.Call f args kws pos) (tN X.K W (evN cl n)) := by
  unfold cSortK at h
  split at h
  · rename_i x p a k ps body scope lpos kpos
    split at h
    · rename_i hk
      obtain ⟨rfl, rfl, hk⟩ := hk
      simp only [Bool.and_eq_true] at hk
      obtain ⟨h1, h2, h3⟩ := hk
      split at h
      · rename_i q hq
        cases one1_is hq
        split at h
        · rename_i hL
          rw [Option.map_eq_some_iff] at h
          obtain ⟨i, hi, rfl⟩ := h
          have LS : LamS1 X.env.scope scope q.arg := by
            rw [c.sc]
            exact lamS1_by hL
          have hix : X.N[i]? = some q.arg := by
            rw [c.N]
            exact ixOf_get hi
          have hnd : X.N.Nodup := by
            rw [c.N]
            exact c.nd
          have hsrc := ok_src c (fun e => hE cl X W C e c) a
          by_cases hh : cl.hi = true
          · obtain ⟨k, hr, hd⟩ := c.low hh
            exact me_sortK (k := k) (fun _ => ⟨hr, fun A outer s H Ex f c' hr2 => hE _ _ _ _ body (c.lamb scope hr2 hd)⟩) (c.lam h1) c.calm c.units (c.bn h2) hnd hix hsrc LS (star_cons h3)
          · exact me_sortK (k := 0) (fun z => absurd z hh) (c.lam h1) c.calm c.units (c.bn h2) hnd hix hsrc LS (star_cons h3)
        · cases h
      · cases h
    · cases h
  · cases h
theorem ok_rev {X : Cx} {W : WX} {cl : Cl} {a : Expr} {ma : E} {lo hi : Option Expr} {s : Expr} {p q : Pos} (h : PE X a (tE X.K W (evE cl ma))) : PE X (.Subscript a (.Slice lo hi (some s) q) p) (tE X.K W (evE cl (cRev ma lo hi s))) := by
  cases lo with
  | some _ => exact pe_bad
  | none =>
    cases hi with
    | some _ => exact pe_bad
    | none =>
      cases s with
      | UnaryOp o c p2 =>
        cases o with
        | USub =>
          cases c with
          | Constant k j p1 =>
            cases k with
            | int i =>
              show PE X _ (tE X.K W (evE cl (if i = 1 then .rev ma else .bad)))
              split
              · rename_i hi
                exact me_rev hi h
              · exact pe_bad
            | _ => exact pe_bad
          | _ => exact pe_bad
        | _ => exact pe_bad
      | _ => exact pe_bad
theorem step_E {rE rT : Ctx → Expr → E} (hE : SE rE) (hT : STt rT) : SE (stepE rE rT) := by
  intro cl X W C e c
  have hE' : ∀ e, PE X e (tE X.K W (evE cl (rE C e))) := fun e => hE cl X W C e c
  cases e with
  | Name x p => exact ok_name c x
  | Constant k j p => exact ok_const k j
  | BinOp a o b p =>
    show PE X _ (tE X.K W (evE cl (match bopOf o with | some o => .bin o (rE C a) (rE C b) | none => .bad)))
    split
    · rename_i o' ho
      rw [bopOf_is ho]
      exact me_bin (hE' a) (hE' b)
    · exact pe_bad
  | UnaryOp o a p =>
    cases o with
    | USub => exact me_neg (hE' a)
    | Not => exact me_not (hE' a)
    | _ => exact pe_bad
  | BoolOp o es p => exact ok_bool hE' o es
  | IfExp k a b p => exact me_ite (hT cl X W C k c) (hE' a) (hE' b)
  | Compare a ops bs p => exact ok_cmp c hE' a ops bs
  | Tuple es k p =>
    show PE X _ (tE X.K W (evE cl (if noStar es then .tup (cEs (rE C) es) else .bad)))
    split
    · rename_i hs
      exact me_tup (ok_es hE' es hs)
    · exact pe_bad
  | List es p =>
    show PE X _ (tE X.K W (evE cl (if noStar es then .new (fz C p) (.disp (cEs (rE C) es)) else .bad)))
    split
    · rename_i hs
      exact me_new (mn_disp (ok_es hE' es hs))
    · exact pe_bad
  | Dict ks vs p =>
    cases ks with
    | nil =>
      cases vs with
      | nil => exact me_new mn_dict0
      | cons _ _ => exact pe_bad
    | cons _ _ => exact pe_bad
  | ListComp elt gens scope p =>
    show PE X _ (tE X.K W (evE cl (match cLC C rE rT elt gens scope with | some n => .new (fz C p) n | none => match cLC2 C rE rT elt gens scope with | some n => .new (fz C p) n | none => .bad)))
    split
    · rename_i n hn
      exact me_new (ok_lc c hE hT hn)
    · split
      · rename_i n hn
        exact me_new (ok_lc2 c hE hT hn)
      · exact pe_bad
  | Call f args kws p =>
    show PE X _ (tE X.K W (evE cl (match cLam C rE f args kws with | some e => e | none => match cSortK C rE f args kws with | some n => .new (fz C p) n | none => cCall C (rE C) p f args kws)))
    split
    · rename_i e he
      exact ok_lam c hE he
    · split
      · rename_i n hn
        exact me_new (ok_sortK c hE hn)
      · exact ok_call c hE' f args kws
  | Subscript a b p =>
    cases b with
    | Slice lo hi st q =>
      cases st with
      | none => exact me_slc (hE' a) (ok_o hE' lo) (ok_o hE' hi)
      | some s => exact ok_rev (hE' a)
    | _ => exact me_idx (hE' a) (hE' _) fun _ _ => rfl
  | _ => exact pe_bad
theorem step_T {rE rT : Ctx → Expr → E} (hE : SE rE) (hT : STt rT) : STt (stepT rE rT) := by
  intro cl X W C e c
  have hE' : ∀ e, PE X e (tE X.K W (evE cl (rE C e))) := fun e => hE cl X W C e c
  have hT' : ∀ e, PT X e (tT X.K W (evE cl (rT C e))) := fun e => hT cl X W C e c
  cases e with
  | UnaryOp o a p =>
    cases o with
    | Not => exact mt_not (hT' a)
    | _ => exact mt_tru (hE' _) fun _ => rfl
  | BoolOp o es p => exact (ok_boolW hT' o es).pt
  | Compare a ops bs p => exact ok_cmpT c hE' a ops bs
  | IfExp k a b p => exact pt_bad
  | _ => exact mt_tru (hE' _) fun _ => rfl
theorem ok_ET : ∀ n, SE (cET n).1 ∧ STt (cET n).2
  | 0 => ⟨fun _ _ _ _ _ _ => pe_bad, fun _ _ _ _ _ _ => pt_bad⟩
  | n + 1 => ⟨step_E (ok_ET n).1 (ok_ET n).2, step_T (ok_ET n).1 (ok_ET n).2⟩
end MP
/-! MiniPy 14: statements from the syntax tree. -/
namespace MP
open PySem PySem.Spec PyProof.Rows L2

def cSs (r : Stmt → S) : List Stmt → Ss
  | [] => .nil
  | s :: ss => .cons (r s) (cSs r ss)
/-- name = [..] on one line -/
def lcSet (C : Ctx) (y : Str) (py : Pos) (scope : Scope) (pos : Pos) : Bool :=
  kindIs C y .local && (decide (C.sc.kind = .function) && ((py.line == pos.line) && !(scope.names.any fun (n, k) => n == y && (k == .local || k == .cell))))
def parNames : Expr → Option (Str × Str)
  | .Tuple [.Name x _, .Name y _] _ _ => some (x, y)
  | _ => none
def parOk (C : Ctx) (tg e : Expr) (x y : Str) : Bool :=
  match tg, e with
  | .Tuple [.Name _ px, .Name _ py] _ _, .Tuple [a, b] _ _ =>
    kindIs C x .local && (kindIs C y .local && (decide (C.sc.kind = .function) && (decide (x ≠ y) && ((py.line == px.line) && (notStar a && (notStar b && (!(foldedForSure 8 a && foldedForSure 8 b) && !(constantsAlone 8 a && constantsAlone 8 b))))))))
  | _, _ => false
def foldTup : Expr → Bool
  | .Tuple vs _ _ => vs.all (foldedForSure 8) && noStar vs
  | _ => false
/-- two names, one of which is none of the block's own: stored in order -/
def oddPair (C : Ctx) (tg e : Expr) : Bool :=
  match tg, e with
  | .Tuple [.Name x _, .Name y _] _ _, .Tuple [a, b] _ _ => !(kindIs C x .local && kindIs C y .local) && (notStar a && notStar b)
  | _, _ => false
def cSetTup (C : Ctx) (r : Expr → E) (tg e : Expr) : S :=
  if isComp e then .bad else
  if isTup e then
    if foldTup e || oddPair C tg e then (match cTg C tg with | some t => .asg t (r e) | none => .bad) else
    match parNames tg with
    | some (x, y) => if parOk C tg e x y then (match cNm C x, cNm C y with | some i, some j => (match e with | .Tuple es _ _ => .asg (.tup [i, j]) (.tup (cEs r es)) | _ => .bad) | _, _ => .bad) else .bad
    | none => .bad
  else match cTg C tg with | some t => .asg t (r e) | none => .bad
def cAssign (C : Ctx) (rE rT : Ctx → Expr → E) (tg e : Expr) : S := match tg with
  | .Name x px => (match cNm C x with
    | some i => (match e with
      | .ListComp elt gens scope pos => if lcSet C x px scope pos then (match cLC C rE rT elt gens scope with | some n => .asg (.name i) (.new (fz C pos) n) | none => match cLC2 C rE rT elt gens scope with | some n => .asg (.name i) (.new (fz C pos) n) | none => .bad) else if kindIs C x .local then .bad else .asg (.name i) (rE C (.ListComp elt gens scope pos))
      | e => if isComp e then .bad else .asg (.name i) (rE C e))
    | none => .bad)
  | .Tuple ts k p => cSetTup C (rE C) (.Tuple ts k p) e
  | .Subscript o i _ => if isSlice i || isComp e then .bad else .setI (rE C o) (rE C i) (rE C e)
  | _ => .bad
def stepS (rE rT : Ctx → Expr → E) (C : Ctx) (rS : Stmt → S) (st : Stmt) : S := match st with
  | .Expr e _ => if isComp e then .bad else .ex (rE C e)
  | .Return o _ => (match o with | some e => .ret (rE C e) | none => .ret (.lit .non))
  | .If c a b _ => .ite (rT C c) (cSs rS a) (cSs rS b)
  | .For tg it body els _ => (match els with
    | [] => if notSet it then (match cTg C tg with | some t => .for t (cSeqI C (rE C) (isTup tg) it) (cSs rS body) | none => .bad) else .bad
    | _ => .bad)
  | .While c body els _ => (match els with | [] => .whil (rT C c) (cSs rS body) | _ => .bad)
  | .Pass _ => .pass
  | .Break _ => .brk
  | .Continue _ => .cont
  | .Assign ts e _ => (match ts with | [t] => cAssign C rE rT t e | _ => .bad)
  | .AugAssign t o e _ => (match t with
    | .Name x _ => (match bopOf o, cNm C x with | some k, some i => if k = .pow then .bad else .aug i k (rE C e) | _, _ => .bad)
    | _ => .bad)
  | .Raise e none _ => (match e with | some (.Call (.Name x _) [.Constant (.str _) _ _] [] _) => if C.exs.contains x && (kindIs C x .globalImplicit && !(x == ("__debug__" : Str))) then .raise x .nil else .bad | _ => .bad)
  | _ => .bad
def cS (rE rT : Ctx → Expr → E) (C : Ctx) : Nat → Stmt → S
  | 0 => fun _ => .bad
  | n + 1 => stepS rE rT C (cS rE rT C n)

variable [TabC]
section
variable {X : Cx} {W : WX} {C : Ctx} {cl : Cl} {a b e : Expr} {es : List Expr} {pos : Pos} {st : Stmt}
theorem ps_bad : PS X st (tS X.K W (exS cl .bad)) := ⟨fun _ _ _ _ _ _ h => by
  obtain ⟨L, φ, M, lr, mh, p⟩ := h
  exact False.elim p⟩
theorem ok_ss {r : Stmt → S} (h : ∀ s, PS X s (tS X.K W (exS cl (r s)))) : ∀ ss : List Stmt, PSs X ss (tS X.K W (exSs cl (cSs r ss)))
  | [] => ss_nil
  | s :: ss => ss_cons (h s) (ok_ss h ss)
theorem sw_no {l : Nat} {t : Option Expr} {env : Env} (h : isComp e = false) : swapsWith e t l env = pure false := by
  cases e <;> first | rfl | cases h
theorem sole_no {l : Nat} {t : Expr} {env : Env} (h : isComp e = false) : swapsWithSole [t] e l env = pure false := sw_no (t := some t) h
theorem swStores_no {t : Expr} {env : Env} (h : isTup e = false) : swappedStores [t] e env = pure none := by
  unfold swappedStores
  cases e <;> first | (cases t <;> rfl) | cases h
theorem swStores_fold {t : Expr} {env : Env} (h : foldTup e = true) : swappedStores [t] e env = pure none := by
  cases e <;> first | cases h | skip
  rename_i vs k p
  unfold foldTup at h
  rw [Bool.and_eq_true] at h
  unfold swappedStores
  cases t <;> first
    | rfl
    | (dsimp only
       split
       · rfl
       · split
         · rfl
         · split
           · rfl
           · rw [h.1]
             rfl)
theorem odd_swap (c : CxOk C X W cl) {tg e : Expr} (h : oddPair C tg e = true) : swappedStores [tg] e X.env = pure none := by
  unfold oddPair at h
  split at h
  · rename_i x px y py k pt a b k2 p2
    simp only [Bool.and_eq_true, Bool.not_eq_true', Bool.and_eq_false_iff] at h
    obtain ⟨h1, h2, h3⟩ := h
    have kk : ∀ z, kindIs C z .local = false → (X.env.kindOf z == some .local) = false := fun z hz => by
      unfold kindIs at hz
      show (X.env.scope.names.lookup z == some .local) = false
      rw [c.sc]
      simpa using hz
    unfold swappedStores
    dsimp only
    split
    · rfl
    · split
      · rfl
      · rw [if_pos]
        have none1 : ∀ f : Expr → Option Str, (f (.Name x px) = none ∨ f (.Name y py) = none) → (([Expr.Name x px, Expr.Name y py].filterMap f).length != 2) = true := fun f hf => by
          rcases hf with hf | hf
          · rw [List.filterMap_cons_none hf]
            cases hg : f (.Name y py) with
            | none => rw [List.filterMap_cons_none hg]; rfl
            | some z => rw [List.filterMap_cons_some hg]; rfl
          · cases hg : f (.Name x px) with
            | none => rw [List.filterMap_cons_none hg, List.filterMap_cons_none hf]; rfl
            | some z => rw [List.filterMap_cons_some hg, List.filterMap_cons_none hf]; rfl
        rw [Bool.or_eq_true]
        refine .inl (none1 _ ?_)
        rcases h1 with h1 | h1
        · have := kk _ h1
          exact .inl (if_neg (by rw [this, Bool.false_and]; exact Bool.false_ne_true))
        · have := kk _ h1
          exact .inr (if_neg (by rw [this, Bool.false_and]; exact Bool.false_ne_true))
  · cases h
theorem lc_swap (c : CxOk C X W cl) {elt : Expr} {gens : List Comprehension} {scope : Scope} {y : Str} {py : Pos} {l : Nat} (h : lcSet C y py scope pos = true) : X.env.scope.names.lookup y = some .local ∧ swapsWith (.ListComp elt gens scope pos) (some (.Name y py)) l X.env = pure true := by
  unfold lcSet at h
  simp only [Bool.and_eq_true, decide_eq_true_eq, Bool.not_eq_true'] at h
  obtain ⟨h1, h2, h3, h4⟩ := h
  have hy := c.look h1
  exact ⟨hy, sw_true (by rw [c.sc]; exact h2) hy h3 h4⟩
theorem par_swap (c : CxOk C X W cl) {x y : Str} {px py pt p2 : Pos} {k k2 : Nat} (h : parOk C (.Tuple [.Name x px, .Name y py] k pt) (.Tuple [a, b] k2 p2) x y = true) :
    X.env.scope.names.lookup x = some .local ∧ X.env.scope.names.lookup y = some .local ∧ x ≠ y ∧ notStar a = true ∧ notStar b = true ∧ swappedStores [.Tuple [.Name x px, .Name y py] k pt] (.Tuple [a, b] k2 p2) X.env = pure (some [x, y]) := by
  unfold parOk at h
  simp only [Bool.and_eq_true, decide_eq_true_eq, Bool.not_eq_true'] at h
  obtain ⟨h1, h2, h3, h4, h5, h6, h7, h8, h9⟩ := h
  have hx := c.look h1
  have hy := c.look h2
  have kx : X.env.kindOf x = some .local := hx
  have ky : X.env.kindOf y = some .local := hy
  have hb : X.env.blockKind = .function := by
    unfold Env.blockKind
    rw [c.sc, h3]
    rfl
  refine ⟨hx, hy, h4, h6, h7, ?_⟩
  have hd : ([x, y].eraseDups.length != 2) = false := by
    have : (y == x) = false := by simpa using fun e : y = x => h4 e.symm
    simp [List.eraseDups_cons, this]
  unfold swappedStores
  dsimp only
  rw [List.any_cons, List.any_cons, List.any_nil]
  simp only [hb, List.filterMap_cons, List.filterMap_nil, kx, ky, h5, List.head?_cons, Option.map_some, Option.getD_some, Expr.pos, beq_self_eq_true, Bool.and_self, if_true, List.length_cons, List.length_nil, List.all_cons, List.all_nil, Bool.and_true, h8, h9]
  simp [hd]
  intro hh
  rcases hh with hh | hh
  · cases a <;> first | (cases hh; done) | cases h6
  · cases b <;> first | (cases hh; done) | cases h7
theorem par_is {tg e : Expr} {x y : Str} (hn : parNames tg = some (x, y)) (h : parOk C tg e x y = true) : ∃ px py k pt a b k2 p2, tg = .Tuple [.Name x px, .Name y py] k pt ∧ e = .Tuple [a, b] k2 p2 := by
  unfold parNames at hn
  split at hn
  · cases hn
    unfold parOk at h
    split at h
    · rename_i h1 h2
      cases h1
      exact ⟨_, _, _, _, _, _, _, _, rfl, rfl⟩
    · cases h
  · cases hn
theorem ok_asgTg (c : CxOk C X W cl) {tg : Expr} {t : Tg} {me : E} (hg : cTg C tg = some t) (he : PE X e (tE X.K W (evE cl me))) (hc : isComp e = false) (hw : swappedStores [tg] e X.env = pure none) : PS X (.Assign [tg] e pos) (tS X.K W (exS cl (.asg t me))) := by
  refine s_asg he (ok_tg c hg) (sw_no hc) hw ?_
  unfold cTg at hg
  split at hg
  · rfl
  · rfl
  · cases hg
theorem sw_cell {elt : Expr} {gens : List Comprehension} {scope : Scope} {p py : Pos} {y : Str} {l : Nat} {env : Env} (h : (env.kindOf y == some .local) = false) : swapsWith (.ListComp elt gens scope p) (some (.Name y py)) l env = pure false := by
  unfold swapsWith
  simp [h]
theorem ok_setTup (c : CxOk C X W cl) {r : Expr → E} (h : ∀ e, PE X e (tE X.K W (evE cl (r e)))) (tg e : Expr) : PS X (.Assign [tg] e pos) (tS X.K W (exS cl (cSetTup C r tg e))) := by
  unfold cSetTup
  split
  · exact ps_bad
  · rename_i hc
    replace hc : isComp e = false := by simpa using hc
    split
    · split
      · rename_i hf
        rw [Bool.or_eq_true] at hf
        split
        · rename_i t ht
          exact ok_asgTg c ht (h e) hc (hf.elim swStores_fold (odd_swap c))
        · exact ps_bad
      · split
        · rename_i x y hp
          split
          · rename_i ho
            obtain ⟨px, py, k, pt, a, b, k2, p2, rfl, rfl⟩ := par_is hp ho
            split
            · rename_i i j hi hj
              obtain ⟨h1, h2, h3, h4, h5, h6⟩ := par_swap c ho
              obtain ⟨i1, _, _⟩ := ok_nm c hi
              obtain ⟨j1, _, _⟩ := ok_nm c hj
              refine s_par c.calm (by rw [c.N]; exact c.nd) i1 j1 (fun e => ?_) h1 h2 (ok_es h [a, b] (by simp [noStar, h4, h5])) h6 (sole_no rfl)
              subst e
              rw [i1] at j1
              exact h3 (Option.some.inj j1)
            · exact ps_bad
          · exact ps_bad
        · exact ps_bad
    · rename_i ht
      split
      · rename_i t hg
        exact ok_asgTg c hg (h e) hc (swStores_no (by simpa using ht))
      · exact ps_bad
theorem ok_assign (c : CxOk C X W cl) {rE rT : Ctx → Expr → E} (hE : SE rE) (hT : STt rT) (tg e : Expr) : PS X (.Assign [tg] e pos) (tS X.K W (exS cl (cAssign C rE rT tg e))) := by
  have hE' : ∀ e, PE X e (tE X.K W (evE cl (rE C e))) := fun e => hE cl X W C e c
  unfold cAssign
  split
  · rename_i x px
    split
    · rename_i i hi
      obtain ⟨n1, n2, n3⟩ := ok_nm c hi
      split
      · rename_i elt gens scope p
        split
        · rename_i hl
          split
          · rename_i n hn
            obtain ⟨tg, iter, ifs, t, cs, rfl, k⟩ := cLC_is hn
            obtain ⟨hy, hsw⟩ := lc_swap (elt := elt) (gens := [⟨tg, iter, ifs, 0⟩]) (l := pos.line) c hl
            rw [k.eq]
            exact s_setLc c.calm (by rw [c.N]; exact c.nd) n1 hy hsw (ok_seqI c hE' tg iter) (by rw [c.N, c.sc]; exact blkOk_by k.blk) k.ix (fun s H Cc l fp => ok_tg (c.blk scope s H Cc l fp) k.tg)
              (fun s H Cc l fp => ok_ifs (fun e => hT _ _ _ _ e (c.blk scope s H Cc l fp)) k.cs) (fun s H Cc l fp => hE _ _ _ _ elt (c.blk scope s H Cc l fp)) (notSet_is k.ns)
          · split
            · rename_i n hn
              obtain ⟨tg, iter, ifs, tg1, iter1, ifs1, t, cs, t1, cs1, rfl, rfl, h0, h1, h2, ht, ht1, hcs, hcs1, hx, hx1⟩ := cLC2_is hn
              obtain ⟨hy, hsw⟩ := lc_swap (elt := elt) (gens := [⟨tg, iter, ifs, 0⟩, ⟨tg1, iter1, ifs1, 0⟩]) (l := pos.line) c hl
              exact s_setLc2 c.calm (by rw [c.N]; exact c.nd) n1 hy hsw (ok_seqI c hE' tg iter) (by rw [c.N, c.sc]; exact blkOk_by h0) hx (fun _ h => h) hx1 (fun s H Cc l fp => ok_tg (c.blk scope s H Cc l fp) ht)
                (fun s H Cc l fp => ok_ifs (fun e => hT _ _ _ _ e (c.blk scope s H Cc l fp)) hcs) (fun s H Cc l fp => ok_seqI (c.blk scope s H Cc l fp) (fun e => hE _ _ _ _ e (c.blk scope s H Cc l fp)) tg1 iter1)
                (fun s H Cc l fp => ok_tg (c.blk scope s H Cc l fp) ht1) (fun s H Cc l fp => ok_ifs (fun e => hT _ _ _ _ e (c.blk scope s H Cc l fp)) hcs1) (fun s H Cc l fp => hE _ _ _ _ elt (c.blk scope s H Cc l fp)) (notSet_is h1) (fun _ => notSet_is h2)
            · exact ps_bad
        · split
          · exact ps_bad
          · rename_i hk
            exact s_set (by rw [c.N]; exact c.nd) n1 n2 (hE' _) (sw_cell (by
              unfold kindIs at hk
              show (X.env.scope.names.lookup x == some .local) = false
              rw [c.sc]
              simpa using hk)) n3
      · split
        · exact ps_bad
        · rename_i hc
          exact s_set (by rw [c.N]; exact c.nd) n1 n2 (hE' _) (sw_no (by simpa using hc)) n3
    · exact ps_bad
  · exact ok_setTup c hE' _ _
  · rename_i o i tp
    split
    · exact ps_bad
    · rename_i hc
      rw [Bool.or_eq_true, not_or, Bool.not_eq_true, Bool.not_eq_true] at hc
      refine s_setI (hE' _) (hE' _) (hE' _) (fun v => ?_) (sole_no hc.2) ?_ rfl
      · cases i <;> first | rfl | cases hc.1
      · unfold swappedStores
        cases e <;> rfl
  · exact ps_bad
theorem ok_S {rE rT : Ctx → Expr → E} (hE : SE rE) (hT : STt rT) (c : CxOk C X W cl) (hp : PassesOwn (model X.prog X.w) X.A X.env X.xe) : ∀ (n : Nat) (st : Stmt), PS X st (tS X.K W (exS cl (cS rE rT C n st)))
  | 0, _ => ps_bad
  | n + 1, st => by
    have hE' : ∀ e, PE X e (tE X.K W (evE cl (rE C e))) := fun e => hE cl X W C e c
    have hT' : ∀ e, PT X e (tT X.K W (evE cl (rT C e))) := fun e => hT cl X W C e c
    have ih := ok_S hE hT c hp n
    cases st with
    | Expr e p =>
      show PS X _ (tS X.K W (exS cl (if isComp e then .bad else .ex (rE C e))))
      split
      · exact ps_bad
      · rename_i hc
        exact s_ex (hE' e) (sw_no (by simpa using hc))
    | Return o p =>
      cases o with
      | none => exact s_ret0
      | some e => exact s_ret (hE' e)
    | If k a b p => exact s_if (hT' k) (ok_ss ih a) (ok_ss ih b)
    | For tg it body els p =>
      cases els with
      | cons _ _ => exact ps_bad
      | nil =>
        show PS X _ (tS X.K W (exS cl (if notSet it then (match cTg C tg with | some t => .for t (cSeqI C (rE C) (isTup tg) it) (cSs (cS rE rT C n) body) | none => .bad) else .bad)))
        split
        · rename_i hs
          split
          · rename_i t ht
            exact s_for hp c.calm (ok_seqI c hE' tg it) (ok_tg c ht) (ok_ss ih body) (notSet_is hs)
          · exact ps_bad
        · exact ps_bad
    | While k body els p =>
      cases els with
      | cons _ _ => exact ps_bad
      | nil => exact s_while hp (hT' k) (ok_ss ih body)
    | Pass p => exact s_pass
    | Break p => exact s_brk
    | Continue p => exact s_cont
    | Assign ts e p =>
      match ts with
      | [] => exact ps_bad
      | [t] => exact ok_assign c hE hT t e
      | _ :: _ :: _ => exact ps_bad
    | AugAssign t o e p =>
      cases t with
      | Name x px =>
        show PS X _ (tS X.K W (exS cl (match bopOf o, cNm C x with | some k, some i => if k = .pow then .bad else .aug i k (rE C e) | _, _ => .bad)))
        split
        · rename_i k i ho hi
          split
          · exact ps_bad
          · rename_i hk
            obtain ⟨n1, n2, n3⟩ := ok_nm c hi
            rw [bopOf_is ho]
            exact s_aug hk (by rw [c.N]; exact c.nd) n1 n2 (hE' e) n3
        · exact ps_bad
      | _ => exact ps_bad
    | Raise e ca p =>
      cases ca with
      | some _ => exact ps_bad
      | none =>
        show PS X _ (tS X.K W (exS cl (match e with | some (.Call (.Name x _) [.Constant (.str _) _ _] [] _) => if C.exs.contains x && (kindIs C x .globalImplicit && !(x == ("__debug__" : Str))) then .raise x .nil else .bad | _ => .bad)))
        split
        · split
          · rename_i hk
            rw [Bool.and_eq_true, Bool.and_eq_true, Bool.not_eq_true'] at hk
            obtain ⟨A, hA, hm⟩ := c.exs _ (by simpa using hk.1)
            exact s_raise c.calm c.tk hA hm (c.gl hk.2.1) hk.2.2
          · exact ps_bad
        · exact ps_bad
    | _ => exact ps_bad
end
end MP
/-! MiniPy 15: all defs of a text. -/
namespace MP
open PySem PySem.Spec PyProof.Rows L2

structure DefI where
  x : Str
  st : Stmt
  N : List Str
  ps : List Str
  kp : Bool := false
  mu : List (Nat × Nat) := []
  lam : Bool := false
/-- a text: its defs, its constants, the built-in names that it uses -/
structure Txt where
  ds : List DefI
  cons : List (Str × D)
  blts : List Str
  exs : List Str := []
  mets : List (Str × MetI) := []
def defsAt : Nat → List DefI → List (Str × Nat)
  | _, [] => []
  | i, d :: r => (d.x, i) :: defsAt (i + 1) r
def ctxOf (t : Txt) (d : DefI) : Ctx := { N := d.N, sc := defScope d.st, defs := defsAt 0 t.ds, cons := t.cons, blts := t.blts, mu := d.mu, exs := t.exs, mets := t.mets, lam := d.lam }
def fdOf (t : Txt) (d : DefI) : FD := ⟨d.kp, d.ps.length, d.N.length, cSs (cS (cET 40).1 (cET 40).2 (ctxOf t d) 40) (defBody d.st)⟩
def tabOf (t : Txt) : List FD := t.ds.map (fdOf t)
theorem defsAt_is : ∀ {ds : List DefI} {i n : Nat} {x : Str}, (defsAt i ds).lookup x = some n → ∃ j d, n = i + j ∧ ds[j]? = some d ∧ d.x = x
  | [], _, _, _, h => by cases h
  | d :: r, i, n, x, h => by
    unfold defsAt at h
    rw [List.lookup_cons] at h
    split at h
    · rename_i e
      cases h
      exact ⟨0, d, rfl, rfl, (eq_of_beq e).symm⟩
    · obtain ⟨j, d', h1, h2, h3⟩ := defsAt_is h
      exact ⟨j + 1, d', by omega, by simpa using h2, h3⟩
section
variable [TabC]
/-- what a text's names are -/
structure TxtOk (t : Txt) (K : PySem.W.Frag) (mg : Str → Option Value) : Prop where
  fns : ∀ (i : Nat) (d : DefI), t.ds[i]? = some d → ∃ f fd, Fun K d.x d.x d.st f fd ∧ mg d.x = some (.ref f) ∧ Binds K fd d.ps []
  sc : ∀ d ∈ t.ds, FnScope d.N d.ps (defScope d.st)
  blt : ∀ x ∈ t.blts, mg x = none
  con : ∀ x d, t.cons.lookup x = some d → ∃ v u, mg x = some u ∧ RelV v u ∧ ∀ φ H, Rep K φ H d v
  exs : ∀ x ∈ t.exs, ∃ A, ExcOk K x A ∧ mg x = some (.ref A)
  mets : ∀ x mi, t.mets.lookup x = some mi → MetOk K mg x mi
/-- the code objects of the defs that make lambdas, and their tables -/
def LamT (t : Txt) (K : PySem.W.Frag) (mg : Str → Option Value) (base : Heap) : Prop := ∀ d ∈ t.ds, d.lam = true → ∀ (f : Addr) (cdv : Value),
  (∃ (oc : Value) (od : Option Addr) (kV doc pm : Value) (an : Option Addr) (ct : Value) (osl : Array (Option Value)), K.lookup f = some ⟨oc, od, .func (PySem.W.fnOf d.x d.x (defArgs d.st) (defBody d.st) (defScope d.st) .none kV doc pm an cdv ct), osl⟩) →
  ∃ c P, cdv = .ref c ∧ LamX.TabB base mg c P ∧ (P, (d.x ++ ".<locals>.") ++ "<lambda>") ∈ TabC.T ∧ ∀ p ∈ TabC.T, p.1 = P → p.2 = (d.x ++ ".<locals>.") ++ "<lambda>"
theorem lamOk_of {P : Program} {w : World} {K : PySem.W.Frag} {mg : Str → Option Value} {base : Heap} {N : List Str} {x : Str} {sc : Scope} {f : Addr} {cdv : Value} {A : Around} {outer : List Env} {s : Shared} {H : Hp} {E : XK}
    (h : ∃ c T, cdv = .ref c ∧ LamX.TabB base mg c T ∧ (T, (x ++ ".<locals>.") ++ "<lambda>") ∈ TabC.T ∧ ∀ p ∈ TabC.T, p.1 = T → p.2 = (x ++ ".<locals>.") ++ "<lambda>") : LamOk (cxOf (L2.CX P w) P w K mg base N x sc f cdv A outer s H E) := by
  obtain ⟨c, T, h1, h2, h3, h4⟩ := h
  have e : (cxOf (L2.CX P w) P w K mg base N x sc f cdv A outer s H E).env.qual = (x ++ ".<locals>.") := rfl
  exact ⟨⟨c, T, h1, h2, by rw [e]; exact h3, by rw [e]; exact h4⟩⟩
theorem txt_ok {t : Txt} {P : Program} {w : World} {K : PySem.W.Frag} {mg : Str → Option Value} {base : Heap} (ok : TxtOk t K mg) (hl : LamT t K mg base) (fuel : Nat) (k : Nat) : ∀ (i : Nat) (d : DefI), t.ds[i]? = some d → ∀ (f : Addr) (fd : FuncData), Fun K d.x d.x d.st f fd →
    FnOk P w K mg base (L2.CX P w) k f fd d.ps (spG K (runF (tabOf t) fuel k i)) := by
  induction k using Nat.strongRecOn with
  | _ k ih =>
    intro i d hd f fd F
    cases k with
    | zero =>
      exact ⟨fun vs H Q E h => by
        obtain ⟨φ, M, args, m, r, p⟩ := h
        exact False.elim p, fun A outer s H args us vs Q E hr he hb hv h => by
        obtain ⟨φ, M, args, m, r, p⟩ := h
        exact False.elim p⟩
    | succ k =>
      have hS := ok.sc d (List.mem_of_getElem? hd)
      have facts : ∀ j, j < k + 1 → ∀ x n, (defsAt 0 t.ds).lookup x = some n → ∃ f fd ps, FnOk P w K mg base (L2.CX P w) j f fd ps (spG K (runF (tabOf t) fuel j n)) ∧ mg x = some (.ref f) ∧ PySem.W.keepIn K (.ref f) = true ∧ Binds K fd ps [] := fun j hj x n hn => by
        obtain ⟨j', d', e, h1, h2⟩ := defsAt_is hn
        have e' : n = j' := by omega
        subst e' h2
        obtain ⟨f', fd', F', hm, hb⟩ := ok.fns n d' h1
        exact ⟨f', fd', d'.ps, ih j hj n d' h1 f' fd' F', hm, F'.kp, hb⟩
      refine fnG (fuel := fuel) F hS (mss := cSs (cS (cET 40).1 (cET 40).2 (ctxOf t d) 40) (defBody d.st)) (kp := d.kp) ?_ fun cdv A outer s H E hcd hr => ?_
      · show (t.ds.map (fdOf t))[i]? = _
        rw [List.getElem?_map, hd]
        rfl
      · have cx : CxOk (ctxOf t d) (cxOf (L2.CX P w) P w K mg base d.N d.x (defScope d.st) f cdv A outer s H E) (fun c d _ H => E c d H) (clOf (tabOf t) fuel k) :=
          { N := rfl, nd := hS.nd, sc := rfl, fn := fun _ _ => rfl, calm := rfl, units := by
              have := hr.un
              show (A.deeper _).units + 64 < cLine
              omega
            blt := ok.blt
            con := ok.con
            defs := fun x n hn => by
              obtain ⟨f', fd', ps, F', hm, hk, hb⟩ := facts k (Nat.lt_succ_self k) x n hn
              exact ⟨k, f', fd', ps, by rw [clOf_call]; exact F', hr, hm, hk, hb⟩
            exs := ok.exs
            mets := ok.mets
            lam := fun h => lamOk_of (hl d (List.mem_of_getElem? hd) h f cdv hcd)
            low := fun h => by
              obtain ⟨j, rfl, e⟩ := clOf_low h
              refine ⟨j, hr, fun x n hn => ?_⟩
              rw [e]
              exact facts j (by omega) x n hn
            tk := takes_of rfl rfl rfl rfl }
        exact ok_ss (fun s => ok_S (ok_ET 40).1 (ok_ET 40).2 cx (passes_of rfl) 40 s) _
/-! ### the law's head -/
theorem law_sp {K : PySem.W.Frag} {T : List FD} {fuel k i : Nat} {H : Hp} {a : Addr} {ns : List Int} (h : ∃ M', runF T fuel k i [.scr (ns.map .int)] [] = .ok (.bl true) M') (hT : LamX.Tabs TabC.T H) (sa : ScrAt K ⟨[], []⟩ H a (ns.map V.int)) :
    spG K (runF T fuel k i) [.ref a] H (fun v _ => v = .bl true) fun _ _ _ => False := by
  obtain ⟨M', h⟩ := h
  refine ⟨⟨[], []⟩, [], [.scr (ns.map .int)], ⟨List.nodup_nil, rfl, fun b hb => by simp at hb, hT, fun n a d h1 _ => by simp at h1⟩, .cons (.scr sa (reps_ints ns)) .nil, ?_⟩
  rw [h]
  intro φ' H' e m v r
  cases r
  rfl
/-! ### a text's facts, one by one -/
def DF (K : PySem.W.Frag) (mg : Str → Option Value) (d : DefI) : Prop := ∃ f fd, Fun K d.x d.x d.st f fd ∧ mg d.x = some (.ref f) ∧ Binds K fd d.ps []
inductive DFs (K : PySem.W.Frag) (mg : Str → Option Value) : List DefI → Prop
  | nil : DFs K mg []
  | cons {d : DefI} {ds : List DefI} : DF K mg d → DFs K mg ds → DFs K mg (d :: ds)
theorem DFs_of {K : PySem.W.Frag} {mg : Str → Option Value} : ∀ {ds : List DefI}, DFs K mg ds → ∀ (i : Nat) (d : DefI), ds[i]? = some d → DF K mg d
  | [], _, _, _, h => by simp at h
  | d :: ds, h, i, e, he => by
    cases h with
    | cons h1 h2 =>
      cases i with
      | zero =>
        cases he
        exact h1
      | succ i => exact DFs_of h2 i e (by simpa using he)
def scB (d : DefI) : Bool := decide ((defScope d.st).kind = .function) && !(defScope d.st).isCoroutine && !(defScope d.st).isGenerator && decide d.N.Nodup && decide (d.N.take d.ps.length = d.ps) &&
  d.ps.all (fun x => decide ((defScope d.st).names.lookup x = some .local) || decide ((defScope d.st).names.lookup x = some .cell)) && (defScope d.st).names.all (fun y => !decide (y.2 = .free))
theorem scB_ok {d : DefI} (h : scB d = true) : FnScope d.N d.ps (defScope d.st) := by
  unfold scB at h
  simp only [Bool.and_eq_true, Bool.not_eq_true', decide_eq_true_eq, List.all_eq_true, Bool.or_eq_true, decide_eq_false_iff_not] at h
  obtain ⟨⟨⟨⟨⟨⟨h1, h2⟩, h3⟩, h4⟩, h5⟩, h6⟩, h7⟩ := h
  exact ⟨h1, h2, h3, h4, h5, h6, h7⟩
theorem scs_ok {ds : List DefI} (h : ds.all scB = true) : ∀ d ∈ ds, FnScope d.N d.ps (defScope d.st) := fun d hd => scB_ok (List.all_eq_true.mp h d hd)
theorem cons_ok {K : PySem.W.Frag} {mg : Str → Option Value} {l : List (Str × D)} (h : ∀ p ∈ l, ∃ (i : Int) (t : Tok), p.2 = .int i ∧ mg p.1 = some (.int i t)) (x : Str) (d : D) (hx : l.lookup x = some d) : ∃ v u, mg x = some u ∧ RelV v u ∧ ∀ φ H, Rep K φ H d v := by
  obtain ⟨i, t, h1, h2⟩ := h _ (PySem.mem_of_lookup hx)
  refine ⟨.int i, .int i t, h2, ⟨t, rfl⟩, fun φ H => ?_⟩
  replace h1 : d = .int i := h1
  rw [h1]
  exact .int i
theorem scr_at_start {K : PySem.W.Frag} {H : Hp} {a : Addr} {ns : List Int} (hs : SqL K H a (ns.map V.int)) : ScrAt K ⟨[], []⟩ H a (ns.map V.int) := by
  rcases hs with (h1 | ⟨o, h1⟩) | h1
  · exact .inl ⟨_, h1, .inl rfl, by simp [Out]⟩
  · exact .inl ⟨_, h1, .inr ⟨o, rfl⟩, by simp [Out]⟩
  · exact .inr h1
end
theorem law_head {l : PySem.W.OpenLaw} {k i fuel : Nat} {q : Program} {loose : List Str} {XP : (Str → Option Value) → Heap → Prop} {YP : World → Heap → Prop} {dr : DefRec} {K : Params → PySem.W.Frag} {t : Txt} {d : DefI} {x : Str}
    (hn : l.most = some 63) (hdf : dr.params.defaults = []) (hd : t.ds[i]? = some d) (hx : dr.name = d.x) (hps : d.ps = [x])
    (hY : ∀ (w : World) (h : Heap), YP w h → (K w.params).In h)
    (F : ∀ (w : World) (mg : Str → Option Value) (h : Heap), (K w.params).In h → h.Ns mainGlobals mg → TxtOk t (K w.params) mg)
    (hlam : ∀ d ∈ t.ds, d.lam = false)
    (hlaw : ∀ ns : List Int, ns.length ≤ 63 → ∃ M', runF (tabOf t) fuel k i [.scr (ns.map .int)] [] = .ok (.bl true) M')
    (hbt : ∀ (kV doc pm : Value) (an : Option Addr) (cdv ct : Value) (s : Shared) (u : Value), BindsTo s (PySem.W.fnOf d.x d.x (defArgs d.st) (defBody d.st) (defScope d.st) .none kV doc pm an cdv ct) ⟨[u], []⟩ [(x, u)]) (hr : Room k callerA) :
    PySem.W.WalkO q loose XP YP l.row.toRowW dr [] (fun f vs => PySem.call f vs) := by
  letI : TabC := ⟨[]⟩
  refine L2.walk_of (l := l) (n := 63) (k := k) (x := x) (K := K) (CX := fun w => L2.CX l.prog w) (sp := fun w => spG (K w.params) (runF (tabOf t) fuel k i)) hn (by decide) hdf hr hY (fun w mg fa h KX G hmg => ?_) (fun w H a ns hl ho hs => law_sp (hlaw ns hl) (fun p hp => by cases hp) (scr_at_start hs)) (fun w H s e s' h => ?_)
  · have ok := F w mg h KX G
    obtain ⟨f, fd, F1, hm, hb⟩ := ok.fns i d hd
    rw [hx, hm] at hmg
    cases hmg
    refine ⟨fd, fun s v => ?_, fun base _ _ => ?_⟩
    · obtain ⟨oc, od, kV, doc, pm, an, cdv, ct, osl, e, lk, hcd⟩ := F1.ex
      rw [e]
      exact hbt kV doc pm an cdv ct s v
    · have q := txt_ok (P := l.prog) (w := w) (base := base) ok (fun d' hd' hl' => by rw [hlam d' hd'] at hl'; cases hl') fuel k i d hd _ fd F1
      rw [hps] at q
      exact q
  · obtain ⟨_, _, _, _, _, _, _, _, _, _, _, _, z⟩ := h
    exact z
/-! ### a text with lambdas -/
/-- tabs: for each def that makes lambdas its name, its code object, its table -/
abbrev Tabs3 := List (Str × Addr × Addr)
def tabT (tabs : Tabs3) : List (Addr × Str) := tabs.map fun q => (q.2.2, (q.1 ++ ".<locals>.") ++ "<lambda>")
def lamChk (K : PySem.W.Frag) (tabs : Tabs3) (ds : List DefI) : Bool := ds.all fun d => !d.lam || K.all fun p => match p.2.data with
  | .func fd => !(decide (fd.qualname = d.x)) || tabs.any fun q => decide (q.1 = d.x) && (match fd.code with | .ref c => decide (c = q.2.1) | _ => false)
  | _ => true
theorem lk_mem {β : Type} : ∀ {l : List (Addr × β)} {a : Addr} {b : β}, l.lookup a = some b → (a, b) ∈ l
  | [], _, _, h => by cases h
  | (k, v) :: r, a, b, h => by
    rw [List.lookup_cons] at h
    split at h
    · rename_i e
      cases h
      have e' : a = k := eq_of_beq e
      rw [e']
      exact List.mem_cons_self
    · exact List.mem_cons_of_mem _ (lk_mem h)
theorem lamChk_is {K : PySem.W.Frag} {tabs : Tabs3} {ds : List DefI} (h : lamChk K tabs ds = true) {d : DefI} (hd : d ∈ ds) (hl : d.lam = true) {f : Addr} {cdv oc kV doc pm ct : Value} {od an : Option Addr} {osl : Array (Option Value)}
    (hf : K.lookup f = some ⟨oc, od, .func (PySem.W.fnOf d.x d.x (defArgs d.st) (defBody d.st) (defScope d.st) .none kV doc pm an cdv ct), osl⟩) : ∃ q ∈ tabs, q.1 = d.x ∧ cdv = .ref q.2.1 := by
  unfold lamChk at h
  have h1 := List.all_eq_true.mp h d hd
  rw [hl, Bool.not_true, Bool.false_or] at h1
  have h2 := List.all_eq_true.mp h1 (f, _) (lk_mem hf)
  simp only [decide_true, Bool.not_true, Bool.false_or, List.any_eq_true, Bool.and_eq_true, decide_eq_true_eq] at h2
  obtain ⟨q, hq, e1, e2⟩ := h2
  refine ⟨q, hq, e1, ?_⟩
  cases cdv <;> first | cases e2 | skip
  rw [of_decide_eq_true e2]
theorem law_headL {l : PySem.W.OpenLaw} {k i fuel : Nat} {q : Program} {loose : List Str} {XP : (Str → Option Value) → Heap → Prop} {YP : World → Heap → Prop} {dr : DefRec} {K : Params → PySem.W.Frag} {t : Txt} {d : DefI} {x : Str} (tabs : Tabs3)
    (hn : l.most = some 63) (hdf : dr.params.defaults = []) (hd : t.ds[i]? = some d) (hx : dr.name = d.x) (hps : d.ps = [x])
    (hY : ∀ (w : World) (h : Heap), YP w h → (K w.params).In h)
    (F : letI : TabC := ⟨tabT tabs⟩; ∀ (w : World) (mg : Str → Option Value) (h : Heap), (K w.params).In h → h.Ns mainGlobals mg → TxtOk t (K w.params) mg)
    (hP : ∀ (w : World) (h : Heap), YP w h → ∀ q ∈ tabs, h.get? q.2.2 = some { cls := .none, data := .fields #[] })
    (hN : ∀ w : World, ∀ q ∈ tabs, (K w.params).lookup q.2.2 = none) (hC : ∀ w : World, ∀ q ∈ tabs, PySem.W.codeHdIn (K w.params) q.2.1 q.2.2 = true)
    (hD : tabs.all (fun q => tabs.all fun r => !(decide (q.2.2 = r.2.2)) || decide (q.1 = r.1)) = true) (hL : ∀ w : World, lamChk (K w.params) tabs t.ds = true)
    (hlaw : ∀ ns : List Int, ns.length ≤ 63 → ∃ M', runF (tabOf t) fuel k i [.scr (ns.map .int)] [] = .ok (.bl true) M')
    (hbt : ∀ (kV doc pm : Value) (an : Option Addr) (cdv ct : Value) (s : Shared) (u : Value), BindsTo s (PySem.W.fnOf d.x d.x (defArgs d.st) (defBody d.st) (defScope d.st) .none kV doc pm an cdv ct) ⟨[u], []⟩ [(x, u)]) (hr : Room k callerA) :
    PySem.W.WalkO q loose XP YP l.row.toRowW dr [] (fun f vs => PySem.call f vs) := by
  letI : TabC := ⟨tabT tabs⟩
  have same : ∀ q ∈ tabs, ∀ r ∈ tabs, q.2.2 = r.2.2 → q.1 = r.1 := fun q hq r hr e => by
    have h1 := List.all_eq_true.mp (List.all_eq_true.mp hD q hq) r hr
    rw [Bool.or_eq_true, Bool.not_eq_true', decide_eq_false_iff_not, decide_eq_true_eq] at h1
    exact h1.elim (fun z => absurd e z) id
  refine LamX.walk_ofTs (l := l) (n := 63) (k := k) (x := x) (K := K) (CX := fun w => L2.CX l.prog w) hn (by decide) hdf hr hY (fun w mg fa h Y KX G hmg => ?_) (fun w H s e s' h => ?_)
  · have ok := F w mg h KX G
    obtain ⟨f, fd, F1, hm, hb⟩ := ok.fns i d hd
    rw [hx, hm] at hmg
    cases hmg
    refine ⟨fd, tabs.map fun q => q.2, spG (K w.params) (runF (tabOf t) fuel k i), fun p hp => ?_, fun p hp => ?_, fun p hp => ?_, fun s v => ?_, fun H a ns hl hbits hT hs => law_sp (hlaw ns hl) (fun p hp => ?_) (scr_at_start hs), fun base hB hG TB => ?_⟩
    · obtain ⟨q, hq, rfl⟩ := List.mem_map.mp hp
      exact hP w h Y q hq
    · obtain ⟨q, hq, rfl⟩ := List.mem_map.mp hp
      exact hN w q hq
    · obtain ⟨q, hq, rfl⟩ := List.mem_map.mp hp
      exact PySem.W.codeHd_of_K KX (hC w q hq)
    · obtain ⟨oc, od, kV, doc, pm, an, cdv, ct, osl, e, lk, hcd⟩ := F1.ex
      rw [e]
      exact hbt kV doc pm an cdv ct s v
    · obtain ⟨q, hq, rfl⟩ := List.mem_map.mp hp
      exact LamX.TabS.nil (hT q.2 (List.mem_map.mpr ⟨q, hq, rfl⟩))
    · have q := txt_ok (P := l.prog) (w := w) (base := base) ok (fun d' hd' hl' f' cdv' hf' => by
        obtain ⟨oc, od, kV, doc, pm, an, ct, osl, hf'⟩ := hf'
        obtain ⟨q, hq, e1, rfl⟩ := lamChk_is (hL w) hd' hl' hf'
        refine ⟨q.2.1, q.2.2, rfl, TB q.2 (List.mem_map.mpr ⟨q, hq, rfl⟩), List.mem_map.mpr ⟨q, hq, by rw [e1]⟩, fun p hp z => ?_⟩
        obtain ⟨r, hr2, rfl⟩ := List.mem_map.mp hp
        rw [← e1, same q hq r hr2 z.symm]) fuel k i d hd _ fd F1
      rw [hps] at q
      exact q
  · obtain ⟨_, _, _, _, _, _, _, _, _, _, _, _, z⟩ := h
    exact z
end MP
/-! MiniPy 16: reckoning in the small language. -/
namespace MP

theorem run_eq {T : List FD} {fuel k f : Nat} {fd : FD} {args : List D} {M : List D} (h : T[f]? = some fd) (hl : args.length = fd.np) :
    runF T fuel (k + 1) f args M = fin fd.kp M (exSs (clOf T fuel k) fd.body (args.map some ++ List.replicate (fd.nl - fd.np) none) M) := by
  rw [runF_succ]
  unfold runB
  rw [h]
  show (if args.length = fd.np then _ else _) = _
  rw [if_pos hl]
/-! ### one rule for each form -/
section
variable (cl : Cl) (L : Lo) (M : List D)
@[simp] theorem x_nil : exSs cl .nil L M = .next L M := rfl
@[simp] theorem x_cons (s : S) (ss : Ss) : exSs cl (.cons s ss) L M = (exS cl s L M).seq fun L1 M1 => exSs cl ss L1 M1 := rfl
@[simp] theorem x_asg (t : Tg) (e : E) : exS cl (.asg t e) L M = (evE cl e L M).then L fun d M1 => match asg t d L with | some L1 => .next L1 M1 | none => .bad := rfl
@[simp] theorem x_ex (e : E) : exS cl (.ex e) L M = (evE cl e L M).then L fun _ M1 => .next L M1 := rfl
@[simp] theorem x_ret (e : E) : exS cl (.ret e) L M = (evE cl e L M).then L fun d M1 => .ret d M1 := rfl
@[simp] theorem x_ite (c : E) (a b : Ss) : exS cl (.ite c a b) L M = (evE cl c L M).then L fun x M1 => (ofO (truth M1 x) M1).then L fun k M1 => if k then exSs cl a L M1 else exSs cl b L M1 := rfl
@[simp] theorem x_for (t : Tg) (it : I) (b : Ss) : exS cl (.for t it b) L M = (evI cl it L M).then L fun w M1 => forL w t (exSs cl b) w.items L M1 := rfl
@[simp] theorem x_setI (o i e : E) : exS cl (.setI o i e) L M = (evE cl e L M).then L fun v M1 => (evE cl o L M1).then L fun x M2 => (evE cl i L M2).then L fun y M3 => match setS M3 x y v with | some M4 => .next L M4 | none => .bad := rfl
@[simp] theorem x_aug (i : Nat) (o : Bop) (e : E) : exS cl (.aug i o e) L M = match L[i]? with
    | some (some x) => (evE cl e L M).then L fun y M1 => match x, y with | .int a, .int b => (match intS o a b with | some z => .next (L.set i (some (.int z))) M1 | none => .bad) | _, _ => .bad
    | _ => .bad := rfl
@[simp] theorem e_var (i : Nat) : evE cl (.var i) L M = match L[i]? with | some (some d) => .ok d M | _ => .bad := rfl
@[simp] theorem e_lit (d : D) : evE cl (.lit d) L M = .ok d M := rfl
@[simp] theorem e_bin (o : Bop) (a b : E) : evE cl (.bin o a b) L M = (evE cl a L M).bind fun x M1 => (evE cl b L M1).bind fun y M2 => ofO (binS M2 o x y) M2 := rfl
@[simp] theorem e_neg (a : E) : evE cl (.neg a) L M = (evE cl a L M).bind fun x M1 => match x with | .int i => .ok (.int (-i)) M1 | _ => .bad := rfl
@[simp] theorem e_cmp (o : Cop) (a b : E) : evE cl (.cmp o a b) L M = (evE cl a L M).bind fun x M1 => (evE cl b L M1).bind fun y M2 => ofO ((cmpS M2 o x y).map .bl) M2 := rfl
@[simp] theorem e_chain (o o' : Cop) (a b c : E) : evE cl (.chain o o' a b c) L M = (evE cl a L M).bind fun x M1 => (evE cl b L M1).bind fun y M2 => (ofO (cmpS M2 o x y) M2).bind fun k M2 =>
      if k then (evE cl c L M2).bind fun z M3 => ofO ((cmpS M3 o' y z).map .bl) M3 else .ok (.bl false) M2 := rfl
@[simp] theorem e_and (a b : E) : evE cl (.andE a b) L M = (evE cl a L M).bind fun x M1 => match x with | .bl true => evE cl b L M1 | .bl false => .ok (.bl false) M1 | _ => .bad := rfl
@[simp] theorem e_or (a b : E) : evE cl (.orE a b) L M = (evE cl a L M).bind fun x M1 => match x with | .bl false => evE cl b L M1 | .bl true => .ok (.bl true) M1 | _ => .bad := rfl
@[simp] theorem e_not (a : E) : evE cl (.notE a) L M = (evE cl a L M).bind fun x M1 => match x with | .bl b => .ok (.bl (!b)) M1 | _ => .bad := rfl
@[simp] theorem e_ite (c a b : E) : evE cl (.ite c a b) L M = (evE cl c L M).bind fun x M1 => (ofO (truth M1 x) M1).bind fun k M1 => if k then evE cl a L M1 else evE cl b L M1 := rfl
@[simp] theorem e_tru (a : E) : evE cl (.tru a) L M = (evE cl a L M).bind fun x M1 => (ofO (truth M1 x) M1).bind fun k M1 => .ok (.bl k) M1 := rfl
@[simp] theorem e_tup (es : Es) : evE cl (.tup es) L M = (evEs cl es L M).bind fun vs M1 => if vs.length ≤ lim then .ok (.tup vs) M1 else .bad := rfl
@[simp] theorem e_new (fr : Bool) (n : N) : evE cl (.new fr n) L M = (evN cl n L M).bind fun d M1 => if fr then .ok d M1 else .ok (.ref M1.length) (M1 ++ [d]) := rfl
@[simp] theorem e_call (f : Nat) (es : Es) : evE cl (.call f es) L M = (evEs cl es L M).bind fun vs M1 => cl.call f vs M1 := rfl
@[simp] theorem e_blt (b : Blt) (es : Es) : evE cl (.blt b es) L M = (evEs cl es L M).bind fun vs M1 => ofO (bltS M1 b vs) M1 := rfl
@[simp] theorem e_mth (m : Mth) (o : E) (es : Es) : evE cl (.mth m o es) L M = (evE cl o L M).bind fun x M1 => if mthK M1 x then (evEs cl es L M1).bind fun vs M2 => (match mthS M2 m x vs with | some (d, M3) => .ok d M3 | none => .bad) else .bad := rfl
@[simp] theorem e_idx (a b : E) : evE cl (.idx a b) L M = (evE cl a L M).bind fun x M1 => (evE cl b L M1).bind fun y M2 => ofO (idxS M2 x y) M2 := rfl
@[simp] theorem e_slc (a : E) (lo hi : Es) : evE cl (.slc a lo hi) L M = (evE cl a L M).bind fun x M1 => (evP cl lo L M1).bind fun u M2 => (evP cl hi L M2).bind fun v M3 => ofO (slcS M3 x u v) M3 := rfl
@[simp] theorem e_rev (a : E) : evE cl (.rev a) L M = (evE cl a L M).bind fun x M1 => ofO (revS M1 x) M1 := rfl
@[simp] theorem p_nil : evP cl .nil L M = .ok none M := rfl
@[simp] theorem p_cons (e : E) (es : Es) : evP cl (.cons e es) L M = (evE cl e L M).bind fun d M1 => match d with | .int i => .ok (some i) M1 | _ => .bad := rfl
@[simp] theorem es_nil : evEs cl .nil L M = .ok [] M := rfl
@[simp] theorem es_cons (e : E) (es : Es) : evEs cl (.cons e es) L M = (evE cl e L M).bind fun v M1 => (evEs cl es L M1).bind fun vs M2 => .ok (v :: vs) M2 := rfl
@[simp] theorem c_nil : evC cl .nil L M = .ok (.bl true) M := rfl
@[simp] theorem c_cons (e : E) (es : Es) : evC cl (.cons e es) L M = evE cl e L M := rfl
@[simp] theorem n_disp (es : Es) : evN cl (.disp es) L M = (evEs cl es L M).bind fun vs M1 => if vs.length ≤ lim then .ok (.lst vs) M1 else .bad := rfl
@[simp] theorem n_comp (own : List Nat) (elt : E) (tg : Tg) (it : I) (cs : Es) : evN cl (.comp own elt tg it cs) L M = (evI cl it L M).bind fun w M1 =>
      if w.items.length ≤ lim then ((compL w tg (wipe L own) (evC cl cs) (evE cl elt) w.items M1).nx).bind fun vs M2 => .ok (.lst vs) M2 else .bad := rfl
@[simp] theorem n_comp2 (own own1 : List Nat) (elt : E) (tg : Tg) (it : I) (cs : Es) (tg1 : Tg) (it1 : I) (cs1 : Es) : evN cl (.comp2 own own1 elt tg it cs tg1 it1 cs1) L M = (evI cl it L M).bind fun w M1 =>
      ((compL2 w tg (wipe L own) (evC cl cs) (fun L1 M => (evI cl it1 L1 M).bind fun w1 M1 => (compL w1 tg1 (wipe L1 own1) (evC cl cs1) (evE cl elt) w1.items M1)) w.items M1).nx).bind fun vs M2 => if vs.length ≤ lim then .ok (.lst vs) M2 else .bad := rfl
@[simp] theorem n_listOf (a : E) : evN cl (.listOf a) L M = (evE cl a L M).bind fun x M1 => match cont M1 x with | some (.lst l) => .ok (.lst l) M1 | some (.tup l) => .ok (.lst l) M1 | some (.scr l) => .ok (.lst l) M1 | _ => .bad := rfl
@[simp] theorem n_listRg (a b : E) : evN cl (.listRg a b) L M = (evE cl a L M).bind fun x M1 => (evE cl b L M1).bind fun y M2 => match x, y with | .int i, .int j => if rgOk i j && decide ((j - i).toNat ≤ 2 ^ 24) then .ok (.lst (rgL i j)) M2 else .bad | _, _ => .bad := rfl
@[simp] theorem n_sorted (a : E) : evN cl (.sorted a) L M = (evE cl a L M).bind fun x M1 => match cont M1 x with
      | some (.lst l) => ofO ((allInts l).map fun ns => .lst ((sortI ns).map .int)) M1
      | some (.tup l) => ofO ((allInts l).map fun ns => .lst ((sortI ns).map .int)) M1
      | _ => .bad := rfl
@[simp] theorem n_dict0 : evN cl .dict0 L M = .ok (.dct []) M := rfl
@[simp] theorem i_seq (e : E) : evI cl (.seq e) L M = (evE cl e L M).bind fun x M1 => ofO (seqS M1 x) M1 := rfl
@[simp] theorem i_range (a b : E) : evI cl (.range a b) L M = (evE cl a L M).bind fun x M1 => (evE cl b L M1).bind fun y M2 => match x, y with | .int i, .int j => if rgOk i j then .ok ⟨rgL i j, none⟩ M2 else .bad | _, _ => .bad := rfl
@[simp] theorem i_enum (e : E) : evI cl (.enum e) L M = (evE cl e L M).bind fun x M1 => match x with | .tup l => .ok ⟨enumL 0 l, none⟩ M1 | .lst l => .ok ⟨enumL 0 l, none⟩ M1 | _ => .bad := rfl
@[simp] theorem i_zip (a b : E) : evI cl (.zip a b) L M = (evE cl a L M).bind fun x M1 => (evE cl b L M1).bind fun y M2 => match x, y with | .tup l, .tup r => .ok ⟨zipL l r, none⟩ M2 | .lst l, .lst r => .ok ⟨zipL l r, none⟩ M2 | _, _ => .bad := rfl
end
@[simp] theorem R.then_bad {α : Type} (L : Lo) (f : α → List D → RS) : (R.bad : R α).then L f = .bad := rfl
@[simp] theorem RS.seq_bad (f : Lo → List D → RS) : (RS.bad).seq f = .bad := rfl
@[simp] theorem asg_name (i : Nat) (d : D) (L : Lo) : asg (.name i) d L = some (L.set i (some d)) := rfl
@[simp] theorem asg_tup2 (i j : Nat) (a b : D) (L : Lo) : asg (.tup [i, j]) (.tup [a, b]) L = some ((L.set i (some a)).set j (some b)) := rfl
@[simp] theorem wipe_nil (L : Lo) : wipe L [] = L := rfl
@[simp] theorem wipe_cons (L : Lo) (v : Nat) (vs : List Nat) : wipe L (v :: vs) = (wipe L vs).set v none := rfl
@[simp] theorem truth_bl (M : List D) (b : Bool) : truth M (.bl b) = some b := rfl
@[simp] theorem cont_ref (M : List D) (n : Nat) : cont M (.ref n) = M[n]? := rfl
@[simp] theorem cont_tup (M : List D) (l : List D) : cont M (.tup l) = some (.tup l) := rfl
@[simp] theorem cont_lst (M : List D) (l : List D) : cont M (.lst l) = some (.lst l) := rfl
@[simp] theorem cont_scr (M : List D) (l : List D) : cont M (.scr l) = some (.scr l) := rfl
@[simp] theorem cont_int (M : List D) (i : Int) : cont M (.int i) = some (.int i) := rfl
@[simp] theorem cont_bl (M : List D) (i : Bool) : cont M (.bl i) = some (.bl i) := rfl
@[simp] theorem cont_non (M : List D) : cont M .non = some .non := rfl
@[simp] theorem cont_str (M : List D) (x : PySem.Str) : cont M (.str x) = some (.str x) := rfl
@[simp] theorem cont_dct (M : List D) (l : List (D × D)) : cont M (.dct l) = some (.dct l) := rfl
@[simp] theorem bin_int (M : List D) (o : Bop) (i j : Int) : binS M o (.int i) (.int j) = (intS o i j).map .int := rfl
@[simp] theorem in_add (i j : Int) : intS .add i j = some (i + j) := rfl
@[simp] theorem in_sub (i j : Int) : intS .sub i j = some (i - j) := rfl
theorem in_mul {i j : Int} (h : okMul i j = true) : intS .mul i j = some (i * j) := if_pos h
@[simp] theorem cmp_lt (M : List D) (i j : Int) : cmpS M .lt (.int i) (.int j) = some (decide (i < j)) := rfl
@[simp] theorem cmp_le (M : List D) (i j : Int) : cmpS M .le (.int i) (.int j) = some (decide (i ≤ j)) := rfl
@[simp] theorem cmp_gt (M : List D) (i j : Int) : cmpS M .gt (.int i) (.int j) = some (decide (j < i)) := rfl
@[simp] theorem cmp_ge (M : List D) (i j : Int) : cmpS M .ge (.int i) (.int j) = some (decide (j ≤ i)) := rfl
@[simp] theorem cmp_isnBl (M : List D) (i j : Bool) : cmpS M .isn (.bl i) (.bl j) = some (!decide (i = j)) := rfl
theorem eqS_of {M : List D} {x y : D} {a b : PySem.PyData} (hx : (frz M 0 6 x).bind toPD = some a) (hy : (frz M 0 6 y).bind toPD = some b) (ha : PySem.SeqAt.shaped a = true) (hb : PySem.SeqAt.shaped b = true) : eqS M x y = some (PySem.PyData.eqv a b) := by
  unfold eqS
  rw [hx, hy]
  show (if (PySem.SeqAt.shaped a && PySem.SeqAt.shaped b) = true then _ else _) = _
  rw [ha, hb]
  rfl
end MP
/-! MiniPy 17: reckoning: closed data, equality of ints, loops. -/
namespace MP

mutual
theorem sub_bel {f : Nat → Option D} {b : Nat} (hf : ∀ k, k < b → f k = some (.ref k)) : ∀ d : D, bel b d = true → sub f d = some d
  | .non, _ => rfl
  | .bl _, _ => rfl
  | .int _, _ => rfl
  | .str _, _ => rfl
  | .ty _, _ => rfl
  | .tup l, h => by simp only [bel] at h; simp [sub, subs_bel hf l h]
  | .lst l, h => by simp only [bel] at h; simp [sub, subs_bel hf l h]
  | .scr l, h => by simp only [bel] at h; simp [sub, subs_bel hf l h]
  | .dct l, h => by simp only [bel] at h; simp [sub, subd_bel hf l h]
  | .ref n, h => by simp [bel] at h; simpa [sub] using hf n h
theorem subs_bel {f : Nat → Option D} {b : Nat} (hf : ∀ k, k < b → f k = some (.ref k)) : ∀ l : List D, bels b l = true → subs f l = some l
  | [], _ => rfl
  | d :: r, h => by
    simp only [bels, Bool.and_eq_true] at h
    simp [subs, sub_bel hf d h.1, subs_bel hf r h.2]
theorem subd_bel {f : Nat → Option D} {b : Nat} (hf : ∀ k, k < b → f k = some (.ref k)) : ∀ l : List (D × D), beld b l = true → subd f l = some l
  | [], _ => rfl
  | (k, v) :: r, h => by
    simp only [beld, Bool.and_eq_true] at h
    simp [subd, sub_bel hf k h.1, sub_bel hf v h.2.1, subd_bel hf r h.2.2]
end
theorem gf_lt (M : List D) (b n k : Nat) (h : k < b) : gf M b n k = some (.ref k) := by
  cases n <;> simp [gf, h]
theorem frz_bel {M : List D} {b n : Nat} {d : D} (h : bel b d = true) : frz M b n d = some d := sub_bel (fun k hk => gf_lt M b n k hk) d h
mutual
theorem bel_mono {a b : Nat} (h : a ≤ b) : ∀ d : D, bel a d = true → bel b d = true
  | .non, _ => rfl
  | .bl _, _ => rfl
  | .int _, _ => rfl
  | .str _, _ => rfl
  | .ty _, _ => rfl
  | .tup l, e => by simp only [bel] at e ⊢; exact bels_mono h l e
  | .lst l, e => by simp only [bel] at e ⊢; exact bels_mono h l e
  | .scr l, e => by simp only [bel] at e ⊢; exact bels_mono h l e
  | .dct l, e => by simp only [bel] at e ⊢; exact beld_mono h l e
  | .ref n, e => by simp [bel] at e ⊢; omega
theorem bels_mono {a b : Nat} (h : a ≤ b) : ∀ l : List D, bels a l = true → bels b l = true
  | [], _ => rfl
  | d :: r, e => by
    simp only [bels, Bool.and_eq_true] at e ⊢
    exact ⟨bel_mono h d e.1, bels_mono h r e.2⟩
theorem beld_mono {a b : Nat} (h : a ≤ b) : ∀ l : List (D × D), beld a l = true → beld b l = true
  | [], _ => rfl
  | (k, v) :: r, e => by
    simp only [beld, Bool.and_eq_true] at e ⊢
    exact ⟨bel_mono h k e.1, bel_mono h v e.2.1, beld_mono h r e.2.2⟩
end
theorem bels_iff {b : Nat} : ∀ {l : List D}, bels b l = true ↔ ∀ d ∈ l, bel b d = true
  | [] => by simp [bels]
  | d :: r => by simp [bels, bels_iff (l := r)]
/-- a call that leaves the small heap's length -/
theorem clean_same {M M' : List D} {d : D} (hl : M'.length = M.length) (hd : bel M.length d = true) : clean M d M' = .ok d M' := by
  unfold clean
  have e : M'.take M.length = M' := by rw [← hl]; exact List.take_length
  split
  · rw [frz_bel hd, e]
  · rfl
theorem clean_self {M : List D} {d : D} (hd : bel M.length d = true) : clean M d M = .ok d M := clean_same rfl hd
/-- what was made is dropped -/
theorem clean_drop {M M1 rest : List D} {d : D} (hl : M1.length = M.length) (hM : bels M.length M1 = true) (hd : bel M.length d = true) : clean M d (M1 ++ rest) = .ok d M1 := by
  unfold clean
  have e : (M1 ++ rest).take M.length = M1 := by rw [← hl]; exact List.take_left' rfl
  rw [e, hM, Bool.or_true, if_pos rfl, frz_bel hd]
@[simp] theorem clean_int (M : List D) (i : Int) : clean M (.int i) M = .ok (.int i) M := clean_self rfl
@[simp] theorem clean_bl (M : List D) (i : Bool) : clean M (.bl i) M = .ok (.bl i) M := clean_self rfl
@[simp] theorem clean_non (M : List D) : clean M .non M = .ok .non M := clean_self rfl
@[simp] theorem at_0 (x : D) (l : List D) : L2.atI (x :: l) 0 = some x := L2.atI_nat (j := 0) rfl
@[simp] theorem at_1 (x y : D) (l : List D) : L2.atI (x :: y :: l) 1 = some y := L2.atI_nat (j := 1) rfl
@[simp] theorem at_2 (x y z : D) (l : List D) : L2.atI (x :: y :: z :: l) 2 = some z := L2.atI_nat (j := 2) rfl
@[simp] theorem fin_ret (M : List D) (d : D) (M' : List D) : fin false M (.ret d M') = clean M d M' := rfl
@[simp] theorem fin_next (M : List D) (L : Lo) (M' : List D) : fin false M (.next L M') = clean M .non M' := rfl
@[simp] theorem fin_keep (M : List D) (d : D) (M' : List D) : fin true M (.ret d M') = .ok d M' := rfl

/-! ### equality -/
theorem toPDs_ints : ∀ l : List Int, toPDs (l.map D.int) = some (l.map PySem.PyData.int)
  | [] => rfl
  | i :: r => by simp [toPDs, toPD, toPDs_ints r]
theorem lay_ints : ∀ l : List Int, PySem.PyData.canLayAll0 (l.map PySem.PyData.int) = true
  | [] => rfl
  | i :: r => by simp [PySem.PyData.canLayAll0, PySem.PyData.canLay0, lay_ints r]
theorem eqv_ints : ∀ l k : List Int, PySem.PyData.eqvAll (l.map PySem.PyData.int) (k.map PySem.PyData.int) = decide (l = k)
  | [], [] => by simp [PySem.PyData.eqvAll]
  | [], _ :: _ => by simp [PySem.PyData.eqvAll]
  | _ :: _, [] => by simp [PySem.PyData.eqvAll]
  | i :: l, j :: k => by
    simp only [List.map_cons, PySem.PyData.eqvAll, PySem.PyData.eqv, eqv_ints l k]
    by_cases h : i = j <;> by_cases h2 : l = k <;> simp [h, h2]
theorem depth_ints : ∀ l : List Int, PySem.PyData.depthAll (l.map PySem.PyData.int) = 0
  | [] => by simp [PySem.PyData.depthAll]
  | i :: r => by simp [PySem.PyData.depthAll, PySem.PyData.depth, depth_ints r]
theorem bels_ints (b : Nat) : ∀ l : List Int, bels b (l.map D.int) = true
  | [] => rfl
  | i :: r => by simp [bels, bel, bels_ints b r]
theorem shaped_ints (l : List Int) : PySem.SeqAt.shaped (.list (l.map PySem.PyData.int)) = true := by
  simp [PySem.SeqAt.shaped, PySem.PyData.canLay0, PySem.PyData.depth, lay_ints, depth_ints]
theorem eqS_ints (M : List D) (l k : List Int) : eqS M (.lst (l.map .int)) (.lst (k.map .int)) = some (decide (l = k)) := by
  have h : ∀ l : List Int, (frz M 0 6 (.lst (l.map .int))).bind toPD = some (.list (l.map .int)) := fun l => by
    rw [frz_bel (by simp [bel, bels_ints])]
    simp [toPD, toPDs_ints]
  rw [eqS_of (h l) (h k) (shaped_ints l) (shaped_ints k)]
  show some (PySem.PyData.eqvAll _ _) = _
  rw [eqv_ints]
theorem eqS_int (M : List D) (i j : Int) : eqS M (.int i) (.int j) = some (decide (i = j)) := by
  have h : ∀ i : Int, (frz M 0 6 (.int i)).bind toPD = some (.int i) := fun i => rfl
  rw [eqS_of (h i) (h j) (by simp [PySem.SeqAt.shaped, PySem.PyData.canLay0, PySem.PyData.depth]) (by simp [PySem.SeqAt.shaped, PySem.PyData.canLay0, PySem.PyData.depth])]
  show some (i == j) = _
  by_cases h : i = j <;> simp [h]
theorem eqS_bl (M : List D) (i j : Bool) : eqS M (.bl i) (.bl j) = some (decide (i = j)) := by
  have h : ∀ i : Bool, (frz M 0 6 (.bl i)).bind toPD = some (.bool i) := fun i => rfl
  rw [eqS_of (h i) (h j) (by simp [PySem.SeqAt.shaped, PySem.PyData.canLay0, PySem.PyData.depth]) (by simp [PySem.SeqAt.shaped, PySem.PyData.canLay0, PySem.PyData.depth])]
  show some (i == j) = _
  by_cases h : i = j <;> simp [h]
@[simp] theorem cmp_eqI (M : List D) (i j : Int) : cmpS M .eq (.int i) (.int j) = some (decide (i = j)) := eqS_int M i j
@[simp] theorem cmp_neI (M : List D) (i j : Int) : cmpS M .ne (.int i) (.int j) = some (!decide (i = j)) := by
  show (eqS M (.int i) (.int j)).map not = _
  rw [eqS_int]
  rfl
@[simp] theorem cmp_eqB (M : List D) (i j : Bool) : cmpS M .eq (.bl i) (.bl j) = some (decide (i = j)) := eqS_bl M i j
@[simp] theorem cmp_neB (M : List D) (i j : Bool) : cmpS M .ne (.bl i) (.bl j) = some (!decide (i = j)) := by
  show (eqS M (.bl i) (.bl j)).map not = _
  rw [eqS_bl]
  rfl
theorem cmp_eqL (M : List D) (l k : List Int) : cmpS M .eq (.lst (l.map .int)) (.lst (k.map .int)) = some (decide (l = k)) := eqS_ints M l k
theorem cmp_neL (M : List D) (l k : List Int) : cmpS M .ne (.lst (l.map .int)) (.lst (k.map .int)) = some (!decide (l = k)) := by
  show (eqS M _ _).map not = _
  rw [eqS_ints]
  rfl

/-! ### loops -/
theorem forL_inv {w : Wk} {tg : Tg} {body : Lo → List D → RS} (P : Nat → Lo → List D → Prop) (hok : ∀ i L M, P i L M → w.ok M = true)
    (hstep : ∀ i x L M, w.items[i]? = some x → P i L M → ∃ L1, asg tg x L = some L1 ∧ ∃ L2 M2, (body L1 M = .next L2 M2 ∨ body L1 M = .cont L2 M2) ∧ P (i + 1) L2 M2) :
    ∀ (k i : Nat) (L : Lo) (M : List D), i + k = w.items.length → P i L M → ∃ L' M', forL w tg body (w.items.drop i) L M = .next L' M' ∧ P w.items.length L' M'
  | 0, i, L, M, hk, p => by
    have e : i = w.items.length := by omega
    subst e
    refine ⟨L, M, ?_, p⟩
    rw [List.drop_length]
    unfold forL
    rw [if_pos (hok _ _ _ p)]
  | k + 1, i, L, M, hk, p => by
    have hi : i < w.items.length := by omega
    obtain ⟨L1, h1, L2, M2, h2, p2⟩ := hstep i _ L M (List.getElem?_eq_getElem hi) p
    obtain ⟨L', M', h3, p3⟩ := forL_inv P hok hstep k (i + 1) L2 M2 (by omega) p2
    refine ⟨L', M', ?_, p3⟩
    rw [List.drop_eq_getElem_cons hi]
    unfold forL
    rw [if_pos (hok _ _ _ p), h1]
    rcases h2 with h2 | h2 <;> simp only [h2] <;> exact h3
theorem forL_all {w : Wk} {tg : Tg} {body : Lo → List D → RS} {L : Lo} {M : List D} (P : Nat → Lo → List D → Prop) (h0 : P 0 L M) (hok : ∀ i L M, P i L M → w.ok M = true)
    (hstep : ∀ i x L M, w.items[i]? = some x → P i L M → ∃ L1, asg tg x L = some L1 ∧ ∃ L2 M2, (body L1 M = .next L2 M2 ∨ body L1 M = .cont L2 M2) ∧ P (i + 1) L2 M2) :
    ∃ L' M', forL w tg body w.items L M = .next L' M' ∧ P w.items.length L' M' := by
  have := forL_inv P hok hstep w.items.length 0 L M (by omega) h0
  simpa using this
/-- a comprehension that changes nothing -/
theorem compL_pure {α : Type} {w : Wk} {tg : Tg} {L : Lo} {cnd elt : Lo → List D → R D} {M : List D} (hok : w.ok M = true) (enc : α → D) (p : α → Bool) (g : α → D) (as : List α)
    (h : ∀ a ∈ as, ∃ L1, asg tg (enc a) L = some L1 ∧ cnd L1 M = .ok (.bl (p a)) M ∧ (p a = true → elt L1 M = .ok (g a) M)) : compL w tg L cnd elt (as.map enc) M = .ok ((as.filter p).map g) M := by
  induction as with
  | nil =>
    show (if w.ok M then _ else _) = _
    rw [if_pos hok]
    rfl
  | cons a as ih =>
    obtain ⟨L1, h1, h2, h3⟩ := h a List.mem_cons_self
    have ih := ih fun b hb => h b (List.mem_cons_of_mem _ hb)
    show (if w.ok M then _ else _) = _
    rw [if_pos hok, h1]
    show (cnd L1 M).bind _ = _
    rw [h2]
    show (if p a = true then _ else _) = _
    by_cases hp : p a = true
    · rw [if_pos hp, h3 hp]
      show (compL w tg L cnd elt (as.map enc) M).bind _ = _
      rw [ih]
      simp [hp]
    · rw [if_neg hp]
      rw [ih]
      simp [hp]
theorem compL_map {α : Type} {w : Wk} {tg : Tg} {L : Lo} {cl : Cl} {elt : Lo → List D → R D} {M : List D} (hok : w.ok M = true) (enc : α → D) (g : α → D) (as : List α)
    (h : ∀ a ∈ as, ∃ L1, asg tg (enc a) L = some L1 ∧ elt L1 M = .ok (g a) M) : compL w tg L (evC cl .nil) elt (as.map enc) M = .ok (as.map g) M := by
  have := compL_pure (cnd := evC cl .nil) (elt := elt) (tg := tg) (L := L) hok enc (fun _ => true) g as fun a ha => by
    obtain ⟨L1, h1, h2⟩ := h a ha
    exact ⟨L1, h1, rfl, fun _ => h2⟩
  rw [this]
  congr 2
  exact List.filter_eq_self.mpr fun _ _ => rfl
theorem cut_from (l : List D) (n : Nat) : cutD l (some (n : Int)) none = l.drop n := by
  unfold cutD
  rw [show HT.sIx l.length 0 (some (n : Int)) = min n l.length from HT.sIx_nat l.length 0 n, HT.sIx_none]
  by_cases h : n ≤ l.length
  · rw [Nat.min_eq_left h]
    exact List.take_of_length_le (by simp)
  · rw [Nat.min_eq_right (by omega), List.drop_length, List.drop_of_length_le (by omega)]
    simp
theorem cut_to (l : List D) (n : Nat) : cutD l none (some (n : Int)) = l.take n := by
  unfold cutD
  rw [show HT.sIx l.length l.length (some (n : Int)) = min n l.length from HT.sIx_nat l.length l.length n, HT.sIx_none]
  rw [List.drop_zero, Nat.sub_zero]
  by_cases h : n ≤ l.length
  · rw [Nat.min_eq_left h]
  · rw [Nat.min_eq_right (by omega), List.take_length, List.take_of_length_le (by omega)]
theorem allInts_map : ∀ l : List Int, allInts (l.map D.int) = some l
  | [] => rfl
  | i :: r => by simp [allInts, allInts_map r]
theorem allBls_map : ∀ l : List Bool, allBls (l.map D.bl) = some l
  | [] => rfl
  | i :: r => by simp [allBls, allBls_map r]
@[simp] theorem ok_none (l : List D) (M : List D) : (Wk.mk l none).ok M = true := rfl
end MP
/-! MiniPy 18: small facts for reckoning. -/
namespace MP
section
variable (cl : Cl) (L : Lo) (M : List D)
@[simp] theorem n_sortK (it : I) (p : Nat) (body : E) : evN cl (.sortK it p body) L M = (evI cl it L M).bind fun w M1 => if cl.hi then (if w.items.length ≤ lim then ((mapE (evE cl.lower body) p L w.items M1).nx).bind fun ks M2 => ofO (sortD w.items ks) M2 else .bad) else .bad := rfl
@[simp] theorem e_met (tag : PySem.Str) (hs : List HdR) (b : E) : evE cl (.met tag hs b) L M = if cl.hi then metR tag hs (evE cl.lower b L M) else .bad := rfl
@[simp] theorem x_raise (c : PySem.Str) (es : Es) : exS cl (.raise c es) L M = (evEs cl es L M).then L fun vs M1 => match vs with | [d] => .exc c d L M1 | _ => .exc c .non L M1 := rfl
end
@[simp] theorem RS.seq_exc (c : PySem.Str) (e : D) (L : Lo) (M : List D) (f : Lo → List D → RS) : (RS.exc c e L M).seq f = .exc c e L M := rfl
@[simp] theorem R.then_exc {α : Type} (c : PySem.Str) (e : D) (L : Lo) (M : List D) (f : α → List D → RS) : (R.exc c e M : R α).then L f = .exc c e L M := rfl
theorem endX_same {M M' : List D} {c : PySem.Str} (h : M' = M) : endX M c .non M' = .exc c .non M := by
  subst h
  unfold endX
  rw [List.take_length, if_pos]
  have h1 : bqs M' M' = true := bqs_self M'
  rw [h1]
  rfl
@[simp] theorem fin_exc (kp : Bool) (M : List D) (c : PySem.Str) (L : Lo) : fin kp M (.exc c .non L M) = .exc c .non M := endX_same rfl
@[simp] theorem clOf_hi2 (T : List FD) (f k : Nat) : (clOf T f (k + 2)).hi = true := rfl
@[simp] theorem clOf_lower2 (T : List FD) (f k : Nat) : (clOf T f (k + 2)).lower = ⟨runF T f k, f, fun _ _ _ => .bad, false⟩ := rfl
@[simp] theorem clOf_call' (T : List FD) (f k i : Nat) (vs M : List D) : (clOf T f k).call i vs M = runF T f k i vs M := by rw [clOf_call]
@[simp] theorem cl_call (f g : Nat → List D → List D → R D) (n i : Nat) (h : Bool) (vs M : List D) : (Cl.mk f n g h).call i vs M = f i vs M := rfl
theorem compL_nil_ok {w : Wk} {tg : Tg} {L : Lo} {cnd elt : Lo → List D → R D} {M : List D} (hok : w.ok M = true) : compL w tg L cnd elt [] M = .ok [] M := by
  show (if w.ok M = true then R.ok ([] : List D) M else .bad) = _
  rw [hok]
  rfl
theorem compL_cons_ok {w : Wk} {tg : Tg} {L L1 : Lo} {cnd elt : Lo → List D → R D} {x y : D} {r zs : List D} {M M2 M3 : List D} (hok : w.ok M = true) (ha : asg tg x L = some L1) (hc : cnd L1 M = .ok (.bl true) M) (he : elt L1 M = .ok y M2) (hr : compL w tg L cnd elt r M2 = .ok zs M3) :
    compL w tg L cnd elt (x :: r) M = .ok (y :: zs) M3 := by
  show (if w.ok M = true then (match asg tg x L with
      | none => R.bad
      | some L1 => (cnd L1 M).bind fun x M1 => (ofO (truth M1 x) M1).bind fun b M1 => if b then (elt L1 M1).bind fun y M2 => (compL w tg L cnd elt r M2).bind fun ys M3 => .ok (y :: ys) M3 else compL w tg L cnd elt r M1) else .bad) = _
  rw [hok, ha]
  show (if true = true then ((cnd L1 M).bind fun x M1 => (ofO (truth M1 x) M1).bind fun b M1 => if b then (elt L1 M1).bind fun y M2 => (compL w tg L cnd elt r M2).bind fun ys M3 => .ok (y :: ys) M3 else compL w tg L cnd elt r M1) else .bad) = _
  rw [if_pos rfl, hc, R.bind_ok]
  show ((elt L1 M).bind fun y M2 => (compL w tg L cnd elt r M2).bind fun ys M3 => .ok (y :: ys) M3) = _
  rw [he, R.bind_ok, hr]
  rfl
/-- a comprehension whose elements change the heap: an invariant of the heap, a property of the elements -/
theorem compL_inv {α : Type} {w : Wk} {tg : Tg} {L : Lo} {cl : Cl} {elt : Lo → List D → R D} (I : List D → Prop) (P : D → Prop) (enc : α → D) (hok : ∀ M, I M → w.ok M = true) : ∀ (as : List α) (M : List D), I M → (∀ a ∈ as, ∀ M, I M → ∃ L1, asg tg (enc a) L = some L1 ∧ ∃ y M2, elt L1 M = .ok y M2 ∧ I M2 ∧ P y) →
    ∃ zs M3, compL w tg L (evC cl .nil) elt (as.map enc) M = .ok zs M3 ∧ I M3 ∧ zs.length = as.length ∧ ∀ z ∈ zs, P z
  | [], M, hI, _ => ⟨[], M, compL_nil_ok (hok M hI), hI, rfl, fun _ h => nomatch h⟩
  | a :: as, M, hI, h => by
    obtain ⟨L1, h1, y, M2, h2, h3, h4⟩ := h a List.mem_cons_self M hI
    obtain ⟨zs, M3, q1, q2, q3, q4⟩ := compL_inv I P enc hok as M2 h3 fun b hb => h b (List.mem_cons_of_mem _ hb)
    refine ⟨y :: zs, M3, compL_cons_ok (hok M hI) h1 rfl h2 q1, q2, by simp [q3], fun z hz => ?_⟩
    rcases List.mem_cons.mp hz with rfl | hz
    · exact h4
    · exact q4 z hz
theorem sortK_run {T : List FD} {f k p : Nat} {L : Lo} {M M1 M2 : List D} {w : Wk} {ks : List D} {d : D} {it : I} {mb : E} (h1 : evI (clOf T f (k + 2)) it L M = .ok w M1) (hlim : w.items.length ≤ lim) (hm : mapE (evE ⟨runF T f k, f, fun _ _ _ => .bad, false⟩ mb) p L w.items M1 = .ok ks M2) (hsd : sortD w.items ks = some d) :
    evN (clOf T f (k + 2)) (.sortK it p mb) L M = .ok d M2 := by
  rw [n_sortK, h1, R.bind_ok, clOf_hi2, if_pos rfl, if_pos hlim, clOf_lower2, hm, R.nx_ok, R.bind_ok, hsd, ofO_some]
theorem range_run {cl : Cl} {L : Lo} {M M1 M2 : List D} {a b : E} {i j : Int} (ha : evE cl a L M = .ok (.int i) M1) (hb : evE cl b L M1 = .ok (.int j) M2) (hr : rgOk i j = true) : evI cl (.range a b) L M = .ok ⟨rgL i j, none⟩ M2 := by
  rw [i_range, ha, R.bind_ok, hb, R.bind_ok]
  show (if rgOk i j then _ else _) = _
  rw [hr]
  rfl
theorem sortBy_map {α : Type} (e : α → D) (k : α → PySem.PyData) (l : List α) : sortBy (l.map e) (l.map k) = (l.mergeSort (PySem.W.dataLe false k)).map e := by
  unfold sortBy
  have z : (l.map e).zip (l.map k) = l.map fun a => (e a, k a) := by
    rw [List.zip_map]
    induction l with
    | nil => rfl
    | cons a l ih => simp [ih]
  have q := List.map_mergeSort (r := PySem.W.dataLe false k) (s := PySem.W.dataLe false (Prod.snd : D × PySem.PyData → PySem.PyData)) (f := fun a => (e a, k a)) (l := l) (fun a _ b _ => rfl)
  rw [z, ← q, List.map_map]
  rfl
theorem mapE_map {α : Type} {f : Lo → List D → R D} {p : Nat} {L : Lo} {M : List D} (e g : α → D) : ∀ l : List α, (∀ a ∈ l, f (L.set p (some (e a))) M = .ok (g a) M) → mapE f p L (l.map e) M = .ok (l.map g) M
  | [], _ => rfl
  | a :: l, h => by
    show (f (L.set p (some (e a))) M).bind _ = _
    rw [h a List.mem_cons_self, R.bind_ok, mapE_map e g l fun b hb => h b (List.mem_cons_of_mem _ hb)]
    rfl
theorem toPDs_map {α : Type} (g : α → D) (k : α → PySem.PyData) : ∀ l : List α, (∀ a ∈ l, toPD (g a) = some (k a)) → toPDs (l.map g) = some (l.map k)
  | [], _ => rfl
  | a :: l, h => by
    show (toPD (g a)).bind _ = _
    rw [h a List.mem_cons_self, Option.bind_some, toPDs_map g k l fun b hb => h b (List.mem_cons_of_mem _ hb)]
    rfl
theorem keysOk_ints {α : Type} (f : α → Int) (l : List α) : keysOk (l.map fun a => .int (f a)) = true := by
  unfold keysOk
  simp [PySem.W.alike, notTN, PySem.PyData.depth]
theorem keysOk_pairs {α : Type} (f g : α → Int) (l : List α) : keysOk (l.map fun a => .tuple [.int (f a), .int (g a)]) = true := by
  unfold keysOk
  simp [PySem.W.alike, PySem.W.alikeAll, tupNE, PySem.PyData.depth, PySem.PyData.depthAll]
theorem sortD_map {α : Type} (e g : α → D) (k : α → PySem.PyData) (l : List α) (h : ∀ a ∈ l, toPD (g a) = some (k a)) (ok : keysOk (l.map k) = true) (hl : l.length ≤ lim) : sortD (l.map e) (l.map g) = some (.lst ((l.mergeSort (PySem.W.dataLe false k)).map e)) := by
  unfold sortD
  rw [toPDs_map g k l h, Option.bind_some, if_pos, sortBy_map]
  simp [ok, hl]
def amt (lo hi : Int) : D → Bool
  | .int v => decide (lo ≤ v) && decide (v ≤ hi)
  | _ => false
@[simp] theorem amt_int (lo hi v : Int) : amt lo hi (.int v) = (decide (lo ≤ v) && decide (v ≤ hi)) := rfl
theorem okL {i j : Int} (h1 : 0 ≤ i) (h2 : i ≤ 4611686018427387904) : okMul i j = true := by
  unfold okMul
  rw [Bool.or_eq_true]
  left
  simp only [Bool.and_eq_true, decide_eq_true_eq]
  constructor <;> omega
theorem okR {i j : Int} (h1 : 0 ≤ j) (h2 : j ≤ 4611686018427387904) : okMul i j = true := by
  unfold okMul
  rw [Bool.or_eq_true]
  right
  simp only [Bool.and_eq_true, decide_eq_true_eq]
  constructor <;> omega
@[simp] theorem seq_tup (M : List D) (l : List D) : seqS M (.tup l) = some ⟨l, none⟩ := rfl
@[simp] theorem seq_lst (M : List D) (l : List D) : seqS M (.lst l) = some ⟨l, none⟩ := rfl
theorem slc_from (M : List D) (l : List D) (n : Nat) : slcS M (.tup l) (some (n : Int)) none = some (.tup (l.drop n)) := by
  show some (D.tup (cutD l (some (n : Int)) none)) = _
  rw [cut_from]
theorem slc_to (M : List D) (l : List D) (n : Nat) : slcS M (.tup l) none (some (n : Int)) = some (.tup (l.take n)) := by
  show some (D.tup (cutD l none (some (n : Int)))) = _
  rw [cut_to]
theorem map_int {α : Type} (g : α → Int) (l : List α) : (l.map fun u => D.int (g u)) = (l.map g).map D.int := by
  rw [List.map_map]
  rfl
theorem blt_sum (M : List D) (l : List Int) : bltS M .sum [.lst (l.map .int)] = some (.int l.sum) := by
  show (((some (l.map D.int) : Option (List D)).bind allInts).map fun l => D.int l.sum) = _
  rw [Option.bind_some, allInts_map]
  rfl
theorem blt_len (M : List D) (l : List D) : bltS M .len [.lst l] = some (.int (l.length : Nat)) := rfl
theorem blt_lenT (M : List D) (l : List D) : bltS M .len [.tup l] = some (.int (l.length : Nat)) := rfl
theorem forL_cons {w : Wk} {tg : Tg} {body : Lo → List D → RS} {x : D} {r : List D} {L L1 L2 : Lo} {M M2 : List D} (hok : w.ok M = true) (h1 : asg tg x L = some L1) (h2 : body L1 M = .next L2 M2) : forL w tg body (x :: r) L M = forL w tg body r L2 M2 := by
  show (if w.ok M then _ else _) = _
  rw [if_pos hok, h1]
  show (match body L1 M with
    | .next L2 M2 => forL w tg body r L2 M2
    | .cont L2 M2 => forL w tg body r L2 M2
    | .brk L2 M2 => .next L2 M2
    | .ret d M2 => .ret d M2
    | .exc c e L2 M2 => .exc c e L2 M2
    | .bad => .bad) = _
  rw [h2]
theorem forL_nil {w : Wk} {tg : Tg} {body : Lo → List D → RS} {L : Lo} {M : List D} (hok : w.ok M = true) : forL w tg body [] L M = .next L M := by
  show (if w.ok M then _ else _) = _
  rw [if_pos hok]
theorem ist_tup (M : List D) (l : List D) : bltS M .isinst [.tup l, .ty "tuple"] = some (.bl true) := rfl
def amts (many : Int) (l : List D) : Bool := l.all (amt 0 (many - 1))
theorem amts_ints : ∀ {l : List D} {many : Int}, l.all flat = true → amts many l = true → ∃ ns, allInts l = some ns ∧ l = ns.map D.int
  | [], _, _, _ => ⟨[], rfl, rfl⟩
  | d :: l, many, hf, h => by
    simp only [amts, List.all_cons, Bool.and_eq_true] at h hf
    obtain ⟨ns, h1, h2⟩ := amts_ints (l := l) hf.2 h.2
    cases d <;> first | cases h.1 | skip
    rename_i i
    exact ⟨i :: ns, by simp [allInts, h1], by rw [h2]; rfl⟩
theorem blt_all (M : List D) (l : List Bool) : bltS M .all [.lst (l.map .bl)] = some (.bl (l.all id)) := by
  show (((some (l.map D.bl) : Option (List D)).bind allBls).map fun l => D.bl (l.all id)) = _
  rw [Option.bind_some, allBls_map]
  rfl
def rgI (many : Int) : List Int := (List.range many.toNat).map fun i : Nat => (i : Int)
def srtIs (many : Int) (ns : List Int) : Bool := decide (sortI ns = rgI many)
theorem rg0 (many : Int) : rgL 0 many = (rgI many).map D.int := by
  unfold rgL rgI
  rw [Int.sub_zero, List.map_map]
  refine List.map_congr_left fun i _ => ?_
  show D.int (0 + (i : Int)) = D.int (i : Int)
  rw [Int.zero_add]
theorem allInts_len : ∀ {l : List D} {ns : List Int}, allInts l = some ns → l = ns.map D.int
  | [], _, h => by cases h; rfl
  | d :: l, ns, h => by
    cases d <;> simp [allInts] at h
    obtain ⟨r, e, rfl⟩ := h
    rw [allInts_len e]
    rfl
def isI : D → Bool
  | .int _ => true
  | _ => false
theorem notInt {l : List D} (h : allInts l = none) : (l.filter fun x => !isI x) ≠ [] := by
  induction l with
  | nil => cases h
  | cons d l ih =>
    cases d <;> simp [allInts] at h <;> first | simp [isI] | skip
    have := ih h
    simpa [isI] using this
theorem allInt {l : List D} {ns : List Int} (h : allInts l = some ns) : (l.filter fun x => !isI x) = [] := by
  rw [allInts_len h, List.filter_eq_nil_iff]
  intro x hx
  obtain ⟨i, _, rfl⟩ := List.mem_map.mp hx
  simp [isI]
theorem sortI_len (ns : List Int) : (sortI ns).length = ns.length := by simp [sortI]
theorem rgI_len (n : Nat) : (rgI (n : Int)).length = n := by simp [rgI]
theorem srt_len {n : Nat} {ns : List Int} (h : ns.length ≠ n) : srtIs (n : Int) ns = false := by
  unfold srtIs
  refine decide_eq_false fun e => h ?_
  rw [← sortI_len, e, rgI_len]
theorem srt_has {n : Nat} {ns : List Int} (h : (n : Int) ∈ ns) : srtIs (n : Int) ns = false := by
  unfold srtIs
  refine decide_eq_false fun e => ?_
  have : (n : Int) ∈ sortI ns := (List.mergeSort_perm ns _).mem_iff.mpr h
  rw [e] at this
  unfold rgI at this
  obtain ⟨i, hi, e⟩ := List.mem_map.mp this
  have := List.mem_range.mp hi
  omega
theorem rgI_sorted (n : Nat) : (rgI (n : Int)).Pairwise (· ≤ ·) := by
  unfold rgI
  rw [Int.toNat_natCast, List.pairwise_map]
  refine (List.pairwise_lt_range (n := n)).imp fun h => by omega
theorem idx_ref {M : List D} {e : Nat} {l : List D} (h : M[e]? = some (.lst l)) (i : Int) : idxS M (.ref e) (.int i) = L2.atI l i := by
  show (match M[e]?, D.int i with
    | some (.tup l), .int i => L2.atI l i
    | some (.lst l), .int i => L2.atI l i
    | some (.scr l), .int i => L2.atI l i
    | _, _ => none) = _
  rw [h]
theorem set_ref {M : List D} {e j : Nat} {l : List D} (h : M[e]? = some (.lst l)) (hj : j < l.length) (v : D) : setS M (.ref e) (.int (j : Int)) v = some (M.set e (.lst (l.set j v))) := by
  show (match M[e]? with
    | some (.lst l) => (L2.ixN l.length (j : Int)).map fun j => M.set e (.lst (l.set j v))
    | _ => none) = _
  rw [h]
  show (L2.ixN l.length (j : Int)).map _ = _
  have : L2.ixN l.length (j : Int) = some j := by
    unfold L2.ixN
    rw [if_pos (by omega), if_pos (by omega)]
    simp
  rw [this]
  rfl
abbrev ewr (a b c : Int) : D := .lst [.int a, .int b, .int c]
theorem set_e0 {M : List D} {e : Nat} {a b c : Int} (h : M[e]? = some (ewr a b c)) (v : Int) : setS M (.ref e) (.int 0) (.int v) = some (M.set e (ewr v b c)) := set_ref (j := 0) h (show 0 < 3 by decide) _
theorem set_e2 {M : List D} {e : Nat} {a b c : Int} (h : M[e]? = some (ewr a b c)) (v : Int) : setS M (.ref e) (.int 2) (.int v) = some (M.set e (ewr a b v)) := set_ref (j := 2) h (show 2 < 3 by decide) _
theorem in_mod {i j : Int} (h : j ≠ 0) : intS .mod i j = some (i.fmod j) := if_pos h
theorem in_fdiv {i j : Int} (h : j ≠ 0) (h2 : j.natAbs < 1073741824) : intS .fdiv i j = some (i.fdiv j) := if_pos ⟨h, h2⟩
theorem blt_int (M : List D) (i : Int) : bltS M .int [.int i] = some (.int i) := rfl
theorem set_self {M : List D} {e : Nat} {x y : D} (h : M[e]? = some x) : (M.set e y)[e]? = some y := List.getElem?_set_self (List.getElem?_eq_some_iff.mp h).1
theorem clean_set {M : List D} {e : Nat} {x : D} {i : Int} : clean M (.int i) (M.set e x) = .ok (.int i) (M.set e x) := clean_same (by simp) rfl
theorem rgL_nat {many : Int} {n : Nat} (h : many = (n : Int)) : rgL 0 many = (List.range n).map fun i : Nat => D.int (i : Int) := by
  subst h
  unfold rgL
  rw [Int.sub_zero, Int.toNat_natCast]
  refine List.map_congr_left fun i _ => ?_
  rw [Int.zero_add]
theorem rg_ok {many : Int} (h : 0 ≤ many ∧ many ≤ 1000) : rgOk 0 many = true := by
  unfold rgOk
  simp only [Bool.and_eq_true, decide_eq_true_eq]
  omega
theorem clean_rest {M rest : List D} {d : D} (hd : bel M.length d = true) : clean M d (M ++ rest) = .ok d M := by
  unfold clean
  have e : (M ++ rest).take M.length = M := List.take_left' rfl
  rw [e, bqs_self, Bool.true_or, if_pos rfl, frz_bel hd]
theorem bels_set {b : Nat} {M : List D} {e : Nat} {x : D} (h : bels b M = true) (hx : bel b x = true) : bels b (M.set e x) = true := by
  rw [bels_iff] at h ⊢
  intro d hd
  rcases List.mem_or_eq_of_mem_set hd with z | z
  · exact h d z
  · rw [z]
    exact hx
theorem seq_next {cl : Cl} {s : S} {ss : Ss} {L L1 : Lo} {M M1 : List D} (h : exS cl s L M = .next L1 M1) : exSs cl (.cons s ss) L M = exSs cl ss L1 M1 := by
  rw [x_cons, h]
  rfl
theorem slc_last (M : List D) (l : List D) : slcS M (.tup l) none (some (-1)) = some (.tup l.dropLast) := by
  show some (D.tup (cutD l none (some (-1)))) = _
  unfold cutD
  rw [HT.sIx_none, List.drop_zero, Nat.sub_zero]
  have : HT.sIx l.length l.length (some (-1)) = l.length - 1 := by
    show (if (-1 : Int) < 0 then ((-1 : Int) + (l.length : Int)).toNat else min (-1 : Int).toNat l.length) = _
    rw [if_pos (by decide)]
    omega
  rw [this, List.dropLast_eq_take]
theorem add_t (M : List D) (l : List D) (d : D) (h : l.length ≤ 100) : binS M .add (.tup l) (.tup [d]) = some (.tup (l ++ [d])) := by
  show (if Bop.add = Bop.add ∧ l.length + 1 ≤ lim then some (D.tup (l ++ [d])) else none) = _
  rw [if_pos ⟨rfl, Nat.le_trans (Nat.add_le_add_right h 1) (by decide)⟩]
theorem add_l (M : List D) (l r : List D) (h : l.length + r.length ≤ lim) : binS M .add (.lst l) (.lst r) = some (.lst (l ++ r)) := by
  show (match cont M (.lst l), cont M (.lst r) with
    | some (.lst a), some (.lst b) => if Bop.add = Bop.add ∧ a.length + b.length ≤ lim then some (D.lst (a ++ b)) else none
    | _, _ => none) = _
  show (if Bop.add = Bop.add ∧ l.length + r.length ≤ lim then some (D.lst (l ++ r)) else none) = _
  rw [if_pos ⟨rfl, h⟩]
theorem mthK_lst (M : List D) (l : List D) : mthK M (.lst l) = true := rfl
theorem idxOf_mem {v : Int} : ∀ {l : List Int}, v ∈ l → ∃ j, idxOf v l = some j ∧ l[j]? = some v
  | [], h => by cases h
  | x :: r, h => by
    unfold idxOf
    by_cases hx : x = v
    · exact ⟨0, by rw [if_pos hx], by rw [hx]; rfl⟩
    · obtain ⟨j, h1, h2⟩ := idxOf_mem (l := r) (by
        rcases List.mem_cons.mp h with e | e
        · exact absurd e.symm hx
        · exact e)
      exact ⟨j + 1, by rw [if_neg hx, h1]; rfl, by simpa using h2⟩
theorem ret_of {cl : Cl} {e : E} {L : Lo} {M M' : List D} {d : D} (h : evE cl e L M = .ok d M') : exSs cl (.cons (.ret e) .nil) L M = .ret d M' := by
  rw [x_cons, x_ret, h]
  rfl
theorem ne_F (M : List D) : cmpS M .ne (.str "False") (.str "False") = some false := by
  have h : eqS M (.str "False") (.str "False") = some true := by
    rw [eqS_of (a := .str "False") (b := .str "False") rfl rfl (by decide +kernel) (by decide +kernel)]
    rfl
  show (eqS M _ _).map not = _
  rw [h]
  rfl
end MP
/-! The draws of the laws k76 to k82, and small judges: by their bodies, in any table. -/
namespace EW
open MP
def bEwer : Ss := .cons (.asg (.name 2) (.ite (.cmp .lt (.var 1) (.blt .len (.cons (.var 0) .nil))) (.blt .int (.cons (.idx (.var 0) (.var 1)) .nil)) (.bin .add (.bin .mul (.lit (.int 827)) (.var 1)) (.lit (.int 61))))) (.cons (.asg (.name 3) (.bin .mod (.blt .int (.cons (.blt .abs (.cons (.var 2) .nil)) .nil)) (.bin .pow (.bin .pow (.lit (.int 10)) (.lit (.int 47))) (.lit (.int 7))))) (.cons (.asg (.name 4) (.bin .add (.bin .add (.bin .add (.bin .mul (.bin .mod (.blt .int (.cons (.var 3) .nil)) (.lit (.int 2305843009213693907))) (.lit (.int 113))) (.bin .mul (.lit (.int 1123)) (.var 1))) (.bin .mul (.lit (.int 53)) (.blt .int (.cons (.cmp .lt (.var 2) (.lit (.int 0))) .nil)))) (.lit (.int 29)))) (.cons (.ret (.new false (.disp (.cons (.blt .max (.cons (.lit (.int 0)) (.cons (.bin .sub (.var 3) (.bin .pow (.lit (.int 10)) (.lit (.int 16)))) .nil))) (.cons (.var 4) (.cons (.lit (.int 0)) .nil)))))) .nil)))
def bDrip : Ss := .cons (.ite (.cmp .gt (.idx (.var 0) (.lit (.int 0))) (.lit (.int 0))) (.cons (.asg (.name 4) (.bin .mod (.blt .int (.cons (.idx (.var 0) (.lit (.int 0))) .nil)) (.var 1))) (.cons (.setI (.var 0) (.lit (.int 0)) (.bin .fdiv (.idx (.var 0) (.lit (.int 0))) (.var 1))) (.cons (.ret (.var 4)) .nil))) .nil) (.cons (.setI (.var 0) (.lit (.int 2)) (.bin .add (.idx (.var 0) (.lit (.int 2))) (.lit (.int 1)))) (.cons (.asg (.name 2) (.bin .mod (.blt .int (.cons (.bin .add (.idx (.var 0) (.lit (.int 1))) (.bin .mul (.lit (.int 32452843)) (.idx (.var 0) (.lit (.int 2))))) .nil)) (.lit (.int 2305843009213693951)))) (.cons (.asg (.name 3) (.bin .add (.bin .mul (.bin .mod (.blt .int (.cons (.bin .add (.bin .mul (.var 2) (.var 2)) (.bin .mul (.lit (.int 317)) (.idx (.var 0) (.lit (.int 2))))) .nil)) (.lit (.int 2305843009213693921))) (.lit (.int 15485867))) (.var 2))) (.cons (.ret (.bin .mod (.blt .int (.cons (.bin .fdiv (.var 3) (.lit (.int 65647))) .nil)) (.var 1))) .nil))))
def bSip (i : Nat) : Ss := .cons (.ret (.idx (.var 1) (.call i (.cons (.var 0) (.cons (.blt .len (.cons (.var 1) .nil)) .nil))))) .nil
def bAmt : Ss := .cons (.ret (.andE (.blt .isinst (.cons (.var 0) (.cons (.lit (.ty "int")) .nil))) (.andE (.notE (.blt .isinst (.cons (.var 0) (.cons (.lit (.ty "bool")) .nil)))) (.chain .le .le (.var 1) (.var 0) (.var 2))))) .nil
def bInt : Ss := .cons (.ret (.andE (.blt .isinst (.cons (.var 0) (.cons (.lit (.ty "int")) .nil))) (.notE (.blt .isinst (.cons (.var 0) (.cons (.lit (.ty "bool")) .nil)))))) .nil
def bWhole (i : Nat) : Ss := .cons (.ite (.orE (.notE (.tru (.blt .isinst (.cons (.var 1) (.cons (.lit (.ty "tuple")) .nil))))) (.notE (.tru (.blt .all (.cons (.new true (.comp [2] (.call i (.cons (.var 2) (.cons (.lit (.int 0)) (.cons (.bin .sub (.var 0) (.lit (.int 1))) .nil)))) (.name 2) (.seq (.var 1)) .nil)) .nil))))) (.cons (.ret (.lit (.bl false))) .nil) .nil) (.cons (.ret (.cmp .eq (.new true (.sorted (.var 1))) (.new true (.listRg (.lit (.int 0)) (.var 0))))) .nil)
def bOrd (i : Nat) : Ss := .cons (.ite (.orE (.notE (.tru (.blt .isinst (.cons (.var 1) (.cons (.lit (.ty "tuple")) .nil))))) (.cmp .ne (.blt .len (.cons (.var 1) .nil)) (.var 0))) (.cons (.ret (.lit (.bl false))) .nil) .nil) (.cons (.ite (.cmp .ne (.new true (.comp [2] (.lit (.int 1)) (.name 2) (.seq (.var 1)) (.cons (.notE (.tru (.call i (.cons (.var 2) .nil)))) .nil))) (.new true (.disp .nil))) (.cons (.ret (.lit (.bl false))) .nil) .nil) (.cons (.ret (.cmp .eq (.new true (.sorted (.var 1))) (.new true (.listRg (.lit (.int 0)) (.var 0))))) .nil))
variable {T : List FD}
theorem amt_run {i : Nat} (hT : T[i]? = some ⟨false, 3, 3, bAmt⟩) (k : Nat) (M : List D) (v : D) (lo hi : Int) (hv : flat v = true) : runF T 0 (k + 1) i [v, .int lo, .int hi] M = .ok (.bl (amt lo hi v)) M := by
  rw [run_eq hT rfl]
  cases v <;> first | cases hv | skip
  · simp [bAmt, bltS, tyS, isiS, amt]
  · simp [bAmt, bltS, tyS, isiS, amt]
  · rename_i j
    by_cases h : lo ≤ j <;> simp [bAmt, bltS, tyS, isiS, amt, h]
  · simp [bAmt, bltS, tyS, isiS, amt]
theorem drip {i : Nat} (hT : T[i]? = some ⟨false, 2, 5, bDrip⟩) (k : Nat) {M : List D} {e : Nat} {a b c : Int} (hM : M[e]? = some (ewr a b c)) {total : Int} (h0 : 0 < total) (h1 : total < 1000000) :
    ∃ r a' c', 0 ≤ r ∧ r < total ∧ runF T 0 (k + 1) i [.ref e, .int total] M = .ok (.int r) (M.set e (ewr a' b c')) := by
  have hne : total ≠ 0 := by omega
  by_cases ha : 0 < a
  · refine ⟨a.fmod total, a.fdiv total, c, Int.fmod_nonneg_of_pos a h0, Int.fmod_lt_of_pos a h0, ?_⟩
    rw [run_eq hT rfl]
    have h2 : decide (0 < a) = true := decide_eq_true ha
    have hm : intS .mod a total = some (a.fmod total) := in_mod hne
    have hd : intS .fdiv a total = some (a.fdiv total) := in_fdiv hne (by omega)
    have hs := set_e0 hM (a.fdiv total)
    simp only [bDrip, x_nil, x_cons, x_asg, x_ex, x_ret, x_ite, x_for, x_setI, x_aug, x_raise, e_var, e_lit, e_bin, e_neg, e_cmp, e_chain, e_and, e_or, e_not, e_ite, e_tru, e_tup, e_new, e_call, e_blt, e_mth, e_idx, e_slc, e_rev, p_nil, p_cons, es_nil, es_cons, c_nil, c_cons, n_disp, n_comp, n_comp2, n_listOf, n_listRg, n_sorted, n_dict0, i_seq, i_range, i_enum, i_zip, clOf_call', cl_call, clOf_hi2, clOf_lower2, R.bind_ok, R.bind_exc, R.then_ok, R.then_exc, R.nx_ok, RS.seq_next, RS.seq_ret, RS.seq_exc, ofO_some, asg_name, asg_tup2, wipe_nil, wipe_cons, truth_bl, cont_ref, cont_tup, cont_lst, cont_scr, cont_int, cont_bl, cont_non, cont_str, cont_dct, bin_int, in_add, in_sub, cmp_lt, cmp_le, cmp_gt, cmp_ge, cmp_isnBl, cmp_eqI, cmp_neI, cmp_eqB, cmp_neB, at_0, at_1, at_2, fin_ret, fin_next, fin_keep, fin_exc, clean_int, clean_bl, clean_non, seq_tup, seq_lst, List.getElem?_cons_zero, List.getElem?_cons_succ, List.set_cons_zero, List.set_cons_succ, Option.map_some, List.map_cons, List.map_nil, if_true, if_false, Bool.false_eq_true, Bool.not_true, Bool.not_false, Bool.and_true, Bool.true_and, Bool.false_and, decide_true, decide_false, List.replicate, List.append, List.nil_append, List.cons_append, idx_ref hM, h2, hm, hd, hs, blt_int, clean_set]
  · have h2 : decide (0 < a) = false := decide_eq_false ha
    have hM2 := set_self (y := ewr a b (c + 1)) hM
    have hs := set_e2 hM (c + 1)
    generalize hc : c + 1 = c' at *
    have m1 : intS .mul 32452843 c' = some (32452843 * c') := in_mul (okL (by decide) (by decide))
    generalize hx : b + 32452843 * c' = x
    have m2 : intS .mod x 2305843009213693951 = some (x.fmod 2305843009213693951) := in_mod (by decide)
    have r1 : 0 ≤ x.fmod 2305843009213693951 := Int.fmod_nonneg_of_pos x (by decide)
    have r2 : x.fmod 2305843009213693951 < 2305843009213693951 := Int.fmod_lt_of_pos x (by decide)
    generalize x.fmod 2305843009213693951 = one at *
    have m3 : intS .mul one one = some (one * one) := in_mul (okL r1 (by omega))
    have m4 : intS .mul 317 c' = some (317 * c') := in_mul (okL (by decide) (by decide))
    generalize hy : one * one + 317 * c' = y
    have m5 : intS .mod y 2305843009213693921 = some (y.fmod 2305843009213693921) := in_mod (by decide)
    generalize y.fmod 2305843009213693921 = z at *
    have m6 : intS .mul z 15485867 = some (z * 15485867) := in_mul (okR (by decide) (by decide))
    generalize hu : z * 15485867 + one = u
    have m7 : intS .fdiv u 65647 = some (u.fdiv 65647) := in_fdiv (by decide) (by decide)
    generalize u.fdiv 65647 = v at *
    have m8 : intS .mod v total = some (v.fmod total) := in_mod hne
    refine ⟨v.fmod total, a, c', Int.fmod_nonneg_of_pos v h0, Int.fmod_lt_of_pos v h0, ?_⟩
    rw [run_eq hT rfl]
    simp only [bDrip, x_nil, x_cons, x_asg, x_ex, x_ret, x_ite, x_for, x_setI, x_aug, x_raise, e_var, e_lit, e_bin, e_neg, e_cmp, e_chain, e_and, e_or, e_not, e_ite, e_tru, e_tup, e_new, e_call, e_blt, e_mth, e_idx, e_slc, e_rev, p_nil, p_cons, es_nil, es_cons, c_nil, c_cons, n_disp, n_comp, n_comp2, n_listOf, n_listRg, n_sorted, n_dict0, i_seq, i_range, i_enum, i_zip, clOf_call', cl_call, clOf_hi2, clOf_lower2, R.bind_ok, R.bind_exc, R.then_ok, R.then_exc, R.nx_ok, RS.seq_next, RS.seq_ret, RS.seq_exc, ofO_some, asg_name, asg_tup2, wipe_nil, wipe_cons, truth_bl, cont_ref, cont_tup, cont_lst, cont_scr, cont_int, cont_bl, cont_non, cont_str, cont_dct, bin_int, in_add, in_sub, cmp_lt, cmp_le, cmp_gt, cmp_ge, cmp_isnBl, cmp_eqI, cmp_neI, cmp_eqB, cmp_neB, at_0, at_1, at_2, fin_ret, fin_next, fin_keep, fin_exc, clean_int, clean_bl, clean_non, seq_tup, seq_lst, List.getElem?_cons_zero, List.getElem?_cons_succ, List.set_cons_zero, List.set_cons_succ, Option.map_some, List.map_cons, List.map_nil, if_true, if_false, Bool.false_eq_true, Bool.not_true, Bool.not_false, Bool.and_true, Bool.true_and, Bool.false_and, decide_true, decide_false, List.replicate, List.append, List.nil_append, List.cons_append, idx_ref hM, idx_ref hM2, h2, hc, hs, m1, hx, m2, m3, m4, hy, m5, m6, hu, m7, m8, blt_int, clean_set]
theorem sip {i j : Nat} (hT : T[i]? = some ⟨false, 2, 2, bSip j⟩) (hD : T[j]? = some ⟨false, 2, 5, bDrip⟩) (k : Nat) {M : List D} {e : Nat} {a b c : Int} (hM : M[e]? = some (ewr a b c)) {l : List Int} (h0 : 0 < l.length) (h1 : l.length < 1000) :
    ∃ v a' c', v ∈ l ∧ runF T 0 (k + 2) i [.ref e, .lst (l.map .int)] M = .ok (.int v) (M.set e (ewr a' b c')) := by
  obtain ⟨r, a', c', h2, h3, q⟩ := drip hD k hM (total := ((l.length : Nat) : Int)) (by omega) (by omega)
  obtain ⟨m, rfl⟩ : ∃ m : Nat, r = (m : Int) := ⟨r.toNat, by omega⟩
  have hr : m < l.length := by omega
  refine ⟨l[m], a', c', List.getElem_mem hr, ?_⟩
  rw [run_eq hT rfl]
  have e1 : bltS M .len [.lst (l.map .int)] = some (.int ((l.length : Nat) : Int)) := by
    show some (D.int ((l.map D.int).length : Nat)) = _
    rw [List.length_map]
  have e2 : idxS (M.set e (ewr a' b c')) (.lst (l.map .int)) (.int (m : Int)) = some (.int l[m]) := by
    refine L2.atI_nat ?_
    rw [List.getElem?_map, List.getElem?_eq_getElem hr]
    rfl
  simp only [bSip, x_nil, x_cons, x_asg, x_ex, x_ret, x_ite, x_for, x_setI, x_aug, x_raise, e_var, e_lit, e_bin, e_neg, e_cmp, e_chain, e_and, e_or, e_not, e_ite, e_tru, e_tup, e_new, e_call, e_blt, e_mth, e_idx, e_slc, e_rev, p_nil, p_cons, es_nil, es_cons, c_nil, c_cons, n_disp, n_comp, n_comp2, n_listOf, n_listRg, n_sorted, n_dict0, i_seq, i_range, i_enum, i_zip, clOf_call', cl_call, clOf_hi2, clOf_lower2, R.bind_ok, R.bind_exc, R.then_ok, R.then_exc, R.nx_ok, RS.seq_next, RS.seq_ret, RS.seq_exc, ofO_some, asg_name, asg_tup2, wipe_nil, wipe_cons, truth_bl, cont_ref, cont_tup, cont_lst, cont_scr, cont_int, cont_bl, cont_non, cont_str, cont_dct, bin_int, in_add, in_sub, cmp_lt, cmp_le, cmp_gt, cmp_ge, cmp_isnBl, cmp_eqI, cmp_neI, cmp_eqB, cmp_neB, at_0, at_1, at_2, fin_ret, fin_next, fin_keep, fin_exc, clean_int, clean_bl, clean_non, seq_tup, seq_lst, List.getElem?_cons_zero, List.getElem?_cons_succ, List.set_cons_zero, List.set_cons_succ, Option.map_some, List.map_cons, List.map_nil, if_true, if_false, Bool.false_eq_true, Bool.not_true, Bool.not_false, Bool.and_true, Bool.true_and, Bool.false_and, decide_true, decide_false, List.replicate, List.append, List.nil_append, List.cons_append, e1, q, e2, clean_set]
theorem ewer {i : Nat} (hT : T[i]? = some ⟨true, 2, 5, bEwer⟩) (k : Nat) (M : List D) (ns : List Int) (s : Nat) : ∃ a b, runF T 0 (k + 1) i [.scr (ns.map .int), .int (s : Int)] M = .ok (.ref M.length) (M ++ [ewr a b 0]) := by
  obtain ⟨p, hp, q, hq, hq0⟩ : ∃ p, intS .pow 10 47 = some p ∧ ∃ q, intS .pow p 7 = some q ∧ q ≠ 0 := ⟨10 ^ 47, by decide +kernel, (10 ^ 47) ^ 7, by decide +kernel, by decide +kernel⟩
  obtain ⟨t, ht⟩ : ∃ t, intS .pow 10 16 = some t := ⟨10 ^ 16, by decide +kernel⟩
  have hcell : ∃ cell, ∀ L : Lo, L[0]? = some (some (.scr (ns.map .int))) → L[1]? = some (some (.int (s : Int))) → evE (clOf T 0 k) (.ite (.cmp .lt (.var 1) (.blt .len (.cons (.var 0) .nil))) (.blt .int (.cons (.idx (.var 0) (.var 1)) .nil)) (.bin .add (.bin .mul (.lit (.int 827)) (.var 1)) (.lit (.int 61)))) L M = .ok (.int cell) M := by
    have hl : bltS M .len [.scr (ns.map .int)] = some (.int ((ns.length : Nat) : Int)) := by
      show some (D.int ((ns.map D.int).length : Nat)) = _
      rw [List.length_map]
    by_cases h : s < ns.length
    · refine ⟨ns[s], fun L h0 h1 => ?_⟩
      have hd : decide ((s : Int) < ((ns.length : Nat) : Int)) = true := decide_eq_true (by omega)
      have hi : idxS M (.scr (ns.map .int)) (.int (s : Int)) = some (.int ns[s]) := by
        refine L2.atI_nat ?_
        rw [List.getElem?_map, List.getElem?_eq_getElem h]
        rfl
      simp only [x_nil, x_cons, x_asg, x_ex, x_ret, x_ite, x_for, x_setI, x_aug, x_raise, e_var, e_lit, e_bin, e_neg, e_cmp, e_chain, e_and, e_or, e_not, e_ite, e_tru, e_tup, e_new, e_call, e_blt, e_mth, e_idx, e_slc, e_rev, p_nil, p_cons, es_nil, es_cons, c_nil, c_cons, n_disp, n_comp, n_comp2, n_listOf, n_listRg, n_sorted, n_dict0, i_seq, i_range, i_enum, i_zip, clOf_call', cl_call, clOf_hi2, clOf_lower2, R.bind_ok, R.bind_exc, R.then_ok, R.then_exc, R.nx_ok, RS.seq_next, RS.seq_ret, RS.seq_exc, ofO_some, asg_name, asg_tup2, wipe_nil, wipe_cons, truth_bl, cont_ref, cont_tup, cont_lst, cont_scr, cont_int, cont_bl, cont_non, cont_str, cont_dct, bin_int, in_add, in_sub, cmp_lt, cmp_le, cmp_gt, cmp_ge, cmp_isnBl, cmp_eqI, cmp_neI, cmp_eqB, cmp_neB, at_0, at_1, at_2, fin_ret, fin_next, fin_keep, fin_exc, clean_int, clean_bl, clean_non, seq_tup, seq_lst, List.getElem?_cons_zero, List.getElem?_cons_succ, List.set_cons_zero, List.set_cons_succ, Option.map_some, List.map_cons, List.map_nil, if_true, if_false, Bool.false_eq_true, Bool.not_true, Bool.not_false, Bool.and_true, Bool.true_and, Bool.false_and, decide_true, decide_false, List.replicate, List.append, List.nil_append, List.cons_append, h0, h1, hl, hd, hi, blt_int]
    · refine ⟨827 * (s : Int) + 61, fun L h0 h1 => ?_⟩
      have hd : decide ((s : Int) < ((ns.length : Nat) : Int)) = false := decide_eq_false (by omega)
      have hm : intS .mul 827 (s : Int) = some (827 * (s : Int)) := in_mul (okL (by decide) (by decide))
      simp only [x_nil, x_cons, x_asg, x_ex, x_ret, x_ite, x_for, x_setI, x_aug, x_raise, e_var, e_lit, e_bin, e_neg, e_cmp, e_chain, e_and, e_or, e_not, e_ite, e_tru, e_tup, e_new, e_call, e_blt, e_mth, e_idx, e_slc, e_rev, p_nil, p_cons, es_nil, es_cons, c_nil, c_cons, n_disp, n_comp, n_comp2, n_listOf, n_listRg, n_sorted, n_dict0, i_seq, i_range, i_enum, i_zip, clOf_call', cl_call, clOf_hi2, clOf_lower2, R.bind_ok, R.bind_exc, R.then_ok, R.then_exc, R.nx_ok, RS.seq_next, RS.seq_ret, RS.seq_exc, ofO_some, asg_name, asg_tup2, wipe_nil, wipe_cons, truth_bl, cont_ref, cont_tup, cont_lst, cont_scr, cont_int, cont_bl, cont_non, cont_str, cont_dct, bin_int, in_add, in_sub, cmp_lt, cmp_le, cmp_gt, cmp_ge, cmp_isnBl, cmp_eqI, cmp_neI, cmp_eqB, cmp_neB, at_0, at_1, at_2, fin_ret, fin_next, fin_keep, fin_exc, clean_int, clean_bl, clean_non, seq_tup, seq_lst, List.getElem?_cons_zero, List.getElem?_cons_succ, List.set_cons_zero, List.set_cons_succ, Option.map_some, List.map_cons, List.map_nil, if_true, if_false, Bool.false_eq_true, Bool.not_true, Bool.not_false, Bool.and_true, Bool.true_and, Bool.false_and, decide_true, decide_false, List.replicate, List.append, List.nil_append, List.cons_append, h0, h1, hl, hd, hm]
  obtain ⟨cell, hcell⟩ := hcell
  have hcell := hcell [some (.scr (ns.map .int)), some (.int (s : Int)), none, none, none] rfl rfl
  generalize (s : Int) = si at *
  have habs : bltS M .abs [.int cell] = some (.int (if cell < 0 then -cell else cell)) := rfl
  generalize (if cell < 0 then -cell else cell) = ca at *
  have hg : intS .mod ca q = some (ca.fmod q) := in_mod hq0
  generalize ca.fmod q = great at *
  have h1 : intS .mod great 2305843009213693907 = some (great.fmod 2305843009213693907) := in_mod (by decide)
  generalize great.fmod 2305843009213693907 = g1 at *
  have h2 : intS .mul g1 113 = some (g1 * 113) := in_mul (okR (by decide) (by decide))
  generalize g1 * 113 = g2 at *
  have h3 : intS .mul 1123 si = some (1123 * si) := in_mul (okL (by decide) (by decide))
  generalize 1123 * si = g3 at *
  have h4 : bltS M .int [.bl (decide (cell < 0))] = some (.int (if decide (cell < 0) then 1 else 0)) := rfl
  generalize (if decide (cell < 0) = true then (1 : Int) else 0) = g4 at *
  have h5 : intS .mul 53 g4 = some (53 * g4) := in_mul (okL (by decide) (by decide))
  generalize 53 * g4 = g5 at *
  have h6 : bltS M .max [.int 0, .int (great - t)] = some (.int (if great - t > 0 then great - t else 0)) := rfl
  generalize (if great - t > 0 then great - t else 0) = mx at *
  have hz : ([D.int mx, D.int (g2 + g3 + g5 + 29), D.int 0]).length ≤ lim := by
    show 3 ≤ lim
    decide
  refine ⟨mx, g2 + g3 + g5 + 29, ?_⟩
  rw [run_eq hT rfl]
  show fin true M (exSs (clOf T 0 k) bEwer [some (.scr (ns.map .int)), some (.int si), none, none, none] M) = _
  rw [show exSs (clOf T 0 k) bEwer [some (.scr (ns.map .int)), some (.int si), none, none, none] M = _ from seq_next (L1 := [some (.scr (ns.map .int)), some (.int si), some (.int cell), none, none]) (M1 := M) (by rw [x_asg, hcell]; rfl)]
  simp only [x_nil, x_cons, x_asg, x_ex, x_ret, x_ite, x_for, x_setI, x_aug, x_raise, e_var, e_lit, e_bin, e_neg, e_cmp, e_chain, e_and, e_or, e_not, e_ite, e_tru, e_tup, e_new, e_call, e_blt, e_mth, e_idx, e_slc, e_rev, p_nil, p_cons, es_nil, es_cons, c_nil, c_cons, n_disp, n_comp, n_comp2, n_listOf, n_listRg, n_sorted, n_dict0, i_seq, i_range, i_enum, i_zip, clOf_call', cl_call, clOf_hi2, clOf_lower2, R.bind_ok, R.bind_exc, R.then_ok, R.then_exc, R.nx_ok, RS.seq_next, RS.seq_ret, RS.seq_exc, ofO_some, asg_name, asg_tup2, wipe_nil, wipe_cons, truth_bl, cont_ref, cont_tup, cont_lst, cont_scr, cont_int, cont_bl, cont_non, cont_str, cont_dct, bin_int, in_add, in_sub, cmp_lt, cmp_le, cmp_gt, cmp_ge, cmp_isnBl, cmp_eqI, cmp_neI, cmp_eqB, cmp_neB, at_0, at_1, at_2, fin_ret, fin_next, fin_keep, fin_exc, clean_int, clean_bl, clean_non, seq_tup, seq_lst, List.getElem?_cons_zero, List.getElem?_cons_succ, List.set_cons_zero, List.set_cons_succ, Option.map_some, List.map_cons, List.map_nil, if_true, if_false, Bool.false_eq_true, Bool.not_true, Bool.not_false, Bool.and_true, Bool.true_and, Bool.false_and, decide_true, decide_false, List.replicate, List.append, List.nil_append, List.cons_append, habs, blt_int, hp, hq, hg, h1, h2, h3, h4, h5, ht, h6, hz]
theorem int_run {i : Nat} (hT : T[i]? = some ⟨false, 1, 1, bInt⟩) (k : Nat) (M : List D) (v : D) (hv : flat v = true) : runF T 0 (k + 1) i [v] M = .ok (.bl (isI v)) M := by
  rw [run_eq hT rfl]
  cases v <;> first | cases hv | skip
  · have e1 : bltS M .isinst [.non, .ty "int"] = some (.bl false) := rfl
    simp only [bInt, x_nil, x_cons, x_asg, x_ex, x_ret, x_ite, x_for, x_setI, x_aug, x_raise, e_var, e_lit, e_bin, e_neg, e_cmp, e_chain, e_and, e_or, e_not, e_ite, e_tru, e_tup, e_new, e_call, e_blt, e_mth, e_idx, e_slc, e_rev, p_nil, p_cons, es_nil, es_cons, c_nil, c_cons, n_disp, n_comp, n_comp2, n_listOf, n_listRg, n_sorted, n_dict0, i_seq, i_range, i_enum, i_zip, clOf_call', cl_call, clOf_hi2, clOf_lower2, R.bind_ok, R.bind_exc, R.then_ok, R.then_exc, R.nx_ok, RS.seq_next, RS.seq_ret, RS.seq_exc, ofO_some, asg_name, asg_tup2, wipe_nil, wipe_cons, truth_bl, cont_ref, cont_tup, cont_lst, cont_scr, cont_int, cont_bl, cont_non, cont_str, cont_dct, bin_int, in_add, in_sub, cmp_lt, cmp_le, cmp_gt, cmp_ge, cmp_isnBl, cmp_eqI, cmp_neI, cmp_eqB, cmp_neB, at_0, at_1, at_2, fin_ret, fin_next, fin_keep, fin_exc, clean_int, clean_bl, clean_non, seq_tup, seq_lst, List.getElem?_cons_zero, List.getElem?_cons_succ, List.set_cons_zero, List.set_cons_succ, Option.map_some, List.map_cons, List.map_nil, if_true, if_false, Bool.false_eq_true, Bool.not_true, Bool.not_false, Bool.and_true, Bool.true_and, Bool.false_and, decide_true, decide_false, List.replicate, List.append, List.nil_append, List.cons_append, e1, isI]
  · rename_i b
    have e1 : bltS M .isinst [.bl b, .ty "int"] = some (.bl true) := rfl
    have e2 : bltS M .isinst [.bl b, .ty "bool"] = some (.bl true) := rfl
    simp only [bInt, x_nil, x_cons, x_asg, x_ex, x_ret, x_ite, x_for, x_setI, x_aug, x_raise, e_var, e_lit, e_bin, e_neg, e_cmp, e_chain, e_and, e_or, e_not, e_ite, e_tru, e_tup, e_new, e_call, e_blt, e_mth, e_idx, e_slc, e_rev, p_nil, p_cons, es_nil, es_cons, c_nil, c_cons, n_disp, n_comp, n_comp2, n_listOf, n_listRg, n_sorted, n_dict0, i_seq, i_range, i_enum, i_zip, clOf_call', cl_call, clOf_hi2, clOf_lower2, R.bind_ok, R.bind_exc, R.then_ok, R.then_exc, R.nx_ok, RS.seq_next, RS.seq_ret, RS.seq_exc, ofO_some, asg_name, asg_tup2, wipe_nil, wipe_cons, truth_bl, cont_ref, cont_tup, cont_lst, cont_scr, cont_int, cont_bl, cont_non, cont_str, cont_dct, bin_int, in_add, in_sub, cmp_lt, cmp_le, cmp_gt, cmp_ge, cmp_isnBl, cmp_eqI, cmp_neI, cmp_eqB, cmp_neB, at_0, at_1, at_2, fin_ret, fin_next, fin_keep, fin_exc, clean_int, clean_bl, clean_non, seq_tup, seq_lst, List.getElem?_cons_zero, List.getElem?_cons_succ, List.set_cons_zero, List.set_cons_succ, Option.map_some, List.map_cons, List.map_nil, if_true, if_false, Bool.false_eq_true, Bool.not_true, Bool.not_false, Bool.and_true, Bool.true_and, Bool.false_and, decide_true, decide_false, List.replicate, List.append, List.nil_append, List.cons_append, e1, e2, isI]
  · rename_i j
    have e1 : bltS M .isinst [.int j, .ty "int"] = some (.bl true) := rfl
    have e2 : bltS M .isinst [.int j, .ty "bool"] = some (.bl false) := rfl
    simp only [bInt, x_nil, x_cons, x_asg, x_ex, x_ret, x_ite, x_for, x_setI, x_aug, x_raise, e_var, e_lit, e_bin, e_neg, e_cmp, e_chain, e_and, e_or, e_not, e_ite, e_tru, e_tup, e_new, e_call, e_blt, e_mth, e_idx, e_slc, e_rev, p_nil, p_cons, es_nil, es_cons, c_nil, c_cons, n_disp, n_comp, n_comp2, n_listOf, n_listRg, n_sorted, n_dict0, i_seq, i_range, i_enum, i_zip, clOf_call', cl_call, clOf_hi2, clOf_lower2, R.bind_ok, R.bind_exc, R.then_ok, R.then_exc, R.nx_ok, RS.seq_next, RS.seq_ret, RS.seq_exc, ofO_some, asg_name, asg_tup2, wipe_nil, wipe_cons, truth_bl, cont_ref, cont_tup, cont_lst, cont_scr, cont_int, cont_bl, cont_non, cont_str, cont_dct, bin_int, in_add, in_sub, cmp_lt, cmp_le, cmp_gt, cmp_ge, cmp_isnBl, cmp_eqI, cmp_neI, cmp_eqB, cmp_neB, at_0, at_1, at_2, fin_ret, fin_next, fin_keep, fin_exc, clean_int, clean_bl, clean_non, seq_tup, seq_lst, List.getElem?_cons_zero, List.getElem?_cons_succ, List.set_cons_zero, List.set_cons_succ, Option.map_some, List.map_cons, List.map_nil, if_true, if_false, Bool.false_eq_true, Bool.not_true, Bool.not_false, Bool.and_true, Bool.true_and, Bool.false_and, decide_true, decide_false, List.replicate, List.append, List.nil_append, List.cons_append, e1, e2, isI]
  · rename_i x
    have e1 : bltS M .isinst [.str x, .ty "int"] = some (.bl false) := rfl
    simp only [bInt, x_nil, x_cons, x_asg, x_ex, x_ret, x_ite, x_for, x_setI, x_aug, x_raise, e_var, e_lit, e_bin, e_neg, e_cmp, e_chain, e_and, e_or, e_not, e_ite, e_tru, e_tup, e_new, e_call, e_blt, e_mth, e_idx, e_slc, e_rev, p_nil, p_cons, es_nil, es_cons, c_nil, c_cons, n_disp, n_comp, n_comp2, n_listOf, n_listRg, n_sorted, n_dict0, i_seq, i_range, i_enum, i_zip, clOf_call', cl_call, clOf_hi2, clOf_lower2, R.bind_ok, R.bind_exc, R.then_ok, R.then_exc, R.nx_ok, RS.seq_next, RS.seq_ret, RS.seq_exc, ofO_some, asg_name, asg_tup2, wipe_nil, wipe_cons, truth_bl, cont_ref, cont_tup, cont_lst, cont_scr, cont_int, cont_bl, cont_non, cont_str, cont_dct, bin_int, in_add, in_sub, cmp_lt, cmp_le, cmp_gt, cmp_ge, cmp_isnBl, cmp_eqI, cmp_neI, cmp_eqB, cmp_neB, at_0, at_1, at_2, fin_ret, fin_next, fin_keep, fin_exc, clean_int, clean_bl, clean_non, seq_tup, seq_lst, List.getElem?_cons_zero, List.getElem?_cons_succ, List.set_cons_zero, List.set_cons_succ, Option.map_some, List.map_cons, List.map_nil, if_true, if_false, Bool.false_eq_true, Bool.not_true, Bool.not_false, Bool.and_true, Bool.true_and, Bool.false_and, decide_true, decide_false, List.replicate, List.append, List.nil_append, List.cons_append, e1, isI]
theorem comp_whole {j : Nat} (hA : T[j]? = some ⟨false, 3, 3, bAmt⟩) (k : Nat) (M : List D) (many : Int) (d : D) (l : List D) (hf : l.all flat = true) :
    compL ⟨l, none⟩ (.name 2) [some (.int many), some d, none] (evC (clOf T 0 (k + 1)) .nil) (evE (clOf T 0 (k + 1)) (.call j (.cons (.var 2) (.cons (.lit (.int 0)) (.cons (.bin .sub (.var 0) (.lit (.int 1))) .nil))))) l M = .ok ((l.map (amt 0 (many - 1))).map D.bl) M := by
  have q := compL_map (w := ⟨l, none⟩) (tg := .name 2) (L := [some (.int many), some d, none]) (M := M) (cl := (clOf T 0 (k + 1))) (elt := evE (clOf T 0 (k + 1)) (.call j (.cons (.var 2) (.cons (.lit (.int 0)) (.cons (.bin .sub (.var 0) (.lit (.int 1))) .nil))))) rfl id (fun x => .bl (amt 0 (many - 1) x)) l (fun u hu => by
    refine ⟨_, rfl, ?_⟩
    have q := amt_run hA k M u 0 (many - 1) (List.all_eq_true.mp hf u hu)
    simp only [id, x_nil, x_cons, x_asg, x_ex, x_ret, x_ite, x_for, x_setI, x_aug, x_raise, e_var, e_lit, e_bin, e_neg, e_cmp, e_chain, e_and, e_or, e_not, e_ite, e_tru, e_tup, e_new, e_call, e_blt, e_mth, e_idx, e_slc, e_rev, p_nil, p_cons, es_nil, es_cons, c_nil, c_cons, n_disp, n_comp, n_comp2, n_listOf, n_listRg, n_sorted, n_dict0, i_seq, i_range, i_enum, i_zip, clOf_call', cl_call, clOf_hi2, clOf_lower2, R.bind_ok, R.bind_exc, R.then_ok, R.then_exc, R.nx_ok, RS.seq_next, RS.seq_ret, RS.seq_exc, ofO_some, asg_name, asg_tup2, wipe_nil, wipe_cons, truth_bl, cont_ref, cont_tup, cont_lst, cont_scr, cont_int, cont_bl, cont_non, cont_str, cont_dct, bin_int, in_add, in_sub, cmp_lt, cmp_le, cmp_gt, cmp_ge, cmp_isnBl, cmp_eqI, cmp_neI, cmp_eqB, cmp_neB, at_0, at_1, at_2, fin_ret, fin_next, fin_keep, fin_exc, clean_int, clean_bl, clean_non, seq_tup, seq_lst, List.getElem?_cons_zero, List.getElem?_cons_succ, List.set_cons_zero, List.set_cons_succ, Option.map_some, List.map_cons, List.map_nil, if_true, if_false, Bool.false_eq_true, Bool.not_true, Bool.not_false, Bool.and_true, Bool.true_and, Bool.false_and, decide_true, decide_false, List.replicate, List.append, List.nil_append, List.cons_append, q])
  rw [List.map_id] at q
  rw [q, List.map_map]
  rfl
theorem whole {i j : Nat} (hT : T[i]? = some ⟨false, 2, 3, bWhole j⟩) (hA : T[j]? = some ⟨false, 3, 3, bAmt⟩) (k : Nat) (M : List D) (many : Int) (hm : 0 ≤ many ∧ many ≤ 9) (l : List D) (hf : l.all flat = true) (hl : l.length ≤ lim) :
    runF T 0 (k + 2) i [.int many, .tup l] M = .ok (.bl (amts many l && match allInts l with | some ns => srtIs many ns | none => false)) M := by
  rw [run_eq hT rfl]
  have hc := comp_whole hA k M many (.tup l) l hf
  have ha : (l.map (amt 0 (many - 1))).all id = amts many l := by
    rw [List.all_map]
    rfl
  by_cases h : amts many l = true
  · obtain ⟨ns, h1, h2⟩ := amts_ints hf h
    have hr : (rgOk 0 many && decide ((many - 0).toNat ≤ 2 ^ 24)) = true := by
      unfold rgOk
      simp only [Bool.and_eq_true, decide_eq_true_eq]
      omega
    have he : cmpS M .eq (.lst ((sortI ns).map .int)) (.lst (rgL 0 many)) = some (srtIs many ns) := by
      rw [rg0, cmp_eqL]
      rfl
    simp only [bWhole, x_nil, x_cons, x_asg, x_ex, x_ret, x_ite, x_for, x_setI, x_aug, x_raise, e_var, e_lit, e_bin, e_neg, e_cmp, e_chain, e_and, e_or, e_not, e_ite, e_tru, e_tup, e_new, e_call, e_blt, e_mth, e_idx, e_slc, e_rev, p_nil, p_cons, es_nil, es_cons, c_nil, c_cons, n_disp, n_comp, n_comp2, n_listOf, n_listRg, n_sorted, n_dict0, i_seq, i_range, i_enum, i_zip, clOf_call', cl_call, clOf_hi2, clOf_lower2, R.bind_ok, R.bind_exc, R.then_ok, R.then_exc, R.nx_ok, RS.seq_next, RS.seq_ret, RS.seq_exc, ofO_some, asg_name, asg_tup2, wipe_nil, wipe_cons, truth_bl, cont_ref, cont_tup, cont_lst, cont_scr, cont_int, cont_bl, cont_non, cont_str, cont_dct, bin_int, in_add, in_sub, cmp_lt, cmp_le, cmp_gt, cmp_ge, cmp_isnBl, cmp_eqI, cmp_neI, cmp_eqB, cmp_neB, at_0, at_1, at_2, fin_ret, fin_next, fin_keep, fin_exc, clean_int, clean_bl, clean_non, seq_tup, seq_lst, List.getElem?_cons_zero, List.getElem?_cons_succ, List.set_cons_zero, List.set_cons_succ, Option.map_some, List.map_cons, List.map_nil, if_true, if_false, Bool.false_eq_true, Bool.not_true, Bool.not_false, Bool.and_true, Bool.true_and, Bool.false_and, decide_true, decide_false, List.replicate, List.append, List.nil_append, List.cons_append, ist_tup, hl, hc, blt_all, ha, h, h1, hr, he]
  · rw [Bool.not_eq_true] at h
    simp only [bWhole, x_nil, x_cons, x_asg, x_ex, x_ret, x_ite, x_for, x_setI, x_aug, x_raise, e_var, e_lit, e_bin, e_neg, e_cmp, e_chain, e_and, e_or, e_not, e_ite, e_tru, e_tup, e_new, e_call, e_blt, e_mth, e_idx, e_slc, e_rev, p_nil, p_cons, es_nil, es_cons, c_nil, c_cons, n_disp, n_comp, n_comp2, n_listOf, n_listRg, n_sorted, n_dict0, i_seq, i_range, i_enum, i_zip, clOf_call', cl_call, clOf_hi2, clOf_lower2, R.bind_ok, R.bind_exc, R.then_ok, R.then_exc, R.nx_ok, RS.seq_next, RS.seq_ret, RS.seq_exc, ofO_some, asg_name, asg_tup2, wipe_nil, wipe_cons, truth_bl, cont_ref, cont_tup, cont_lst, cont_scr, cont_int, cont_bl, cont_non, cont_str, cont_dct, bin_int, in_add, in_sub, cmp_lt, cmp_le, cmp_gt, cmp_ge, cmp_isnBl, cmp_eqI, cmp_neI, cmp_eqB, cmp_neB, at_0, at_1, at_2, fin_ret, fin_next, fin_keep, fin_exc, clean_int, clean_bl, clean_non, seq_tup, seq_lst, List.getElem?_cons_zero, List.getElem?_cons_succ, List.set_cons_zero, List.set_cons_succ, Option.map_some, List.map_cons, List.map_nil, if_true, if_false, Bool.false_eq_true, Bool.not_true, Bool.not_false, Bool.and_true, Bool.true_and, Bool.false_and, decide_true, decide_false, List.replicate, List.append, List.nil_append, List.cons_append, ist_tup, hl, hc, blt_all, ha, h]
theorem whole_no {i j : Nat} (hT : T[i]? = some ⟨false, 2, 3, bWhole j⟩) (k : Nat) (M : List D) (many : Int) (d : D) (hd : bltS M .isinst [d, .ty "tuple"] = some (.bl false)) : runF T 0 (k + 1) i [.int many, d] M = .ok (.bl false) M := by
  rw [run_eq hT rfl]
  simp only [bWhole, x_nil, x_cons, x_asg, x_ex, x_ret, x_ite, x_for, x_setI, x_aug, x_raise, e_var, e_lit, e_bin, e_neg, e_cmp, e_chain, e_and, e_or, e_not, e_ite, e_tru, e_tup, e_new, e_call, e_blt, e_mth, e_idx, e_slc, e_rev, p_nil, p_cons, es_nil, es_cons, c_nil, c_cons, n_disp, n_comp, n_comp2, n_listOf, n_listRg, n_sorted, n_dict0, i_seq, i_range, i_enum, i_zip, clOf_call', cl_call, clOf_hi2, clOf_lower2, R.bind_ok, R.bind_exc, R.then_ok, R.then_exc, R.nx_ok, RS.seq_next, RS.seq_ret, RS.seq_exc, ofO_some, asg_name, asg_tup2, wipe_nil, wipe_cons, truth_bl, cont_ref, cont_tup, cont_lst, cont_scr, cont_int, cont_bl, cont_non, cont_str, cont_dct, bin_int, in_add, in_sub, cmp_lt, cmp_le, cmp_gt, cmp_ge, cmp_isnBl, cmp_eqI, cmp_neI, cmp_eqB, cmp_neB, at_0, at_1, at_2, fin_ret, fin_next, fin_keep, fin_exc, clean_int, clean_bl, clean_non, seq_tup, seq_lst, List.getElem?_cons_zero, List.getElem?_cons_succ, List.set_cons_zero, List.set_cons_succ, Option.map_some, List.map_cons, List.map_nil, if_true, if_false, Bool.false_eq_true, Bool.not_true, Bool.not_false, Bool.and_true, Bool.true_and, Bool.false_and, decide_true, decide_false, List.replicate, List.append, List.nil_append, List.cons_append, hd]
theorem ord {i j : Nat} (hT : T[i]? = some ⟨false, 2, 3, bOrd j⟩) (hI : T[j]? = some ⟨false, 1, 1, bInt⟩) (k : Nat) (M : List D) (n : Int) (hn : 0 ≤ n ∧ n ≤ 9) (l : List D) (hf : l.all flat = true) (hl : l.length ≤ lim) :
    runF T 0 (k + 2) i [.int n, .tup l] M = .ok (.bl (decide (((l.length : Nat) : Int) = n) && match allInts l with | some ns => srtIs n ns | none => false)) M := by
  rw [run_eq hT rfl]
  by_cases hne : ((l.length : Nat) : Int) = n
  · have hc := compL_pure (w := ⟨l, none⟩) (tg := .name 2) (L := [some (.int n), some (.tup l), none]) (M := M) (cnd := evC (clOf T 0 (k + 1)) (.cons (.notE (.tru (.call j (.cons (.var 2) .nil)))) .nil)) (elt := evE (clOf T 0 (k + 1)) (.lit (.int 1)))
      rfl id (fun x => !isI x) (fun _ => .int 1) l (fun u hu => by
        refine ⟨_, rfl, ?_, fun _ => rfl⟩
        have q := int_run hI k M u (List.all_eq_true.mp hf u hu)
        simp only [id, x_nil, x_cons, x_asg, x_ex, x_ret, x_ite, x_for, x_setI, x_aug, x_raise, e_var, e_lit, e_bin, e_neg, e_cmp, e_chain, e_and, e_or, e_not, e_ite, e_tru, e_tup, e_new, e_call, e_blt, e_mth, e_idx, e_slc, e_rev, p_nil, p_cons, es_nil, es_cons, c_nil, c_cons, n_disp, n_comp, n_comp2, n_listOf, n_listRg, n_sorted, n_dict0, i_seq, i_range, i_enum, i_zip, clOf_call', cl_call, clOf_hi2, clOf_lower2, R.bind_ok, R.bind_exc, R.then_ok, R.then_exc, R.nx_ok, RS.seq_next, RS.seq_ret, RS.seq_exc, ofO_some, asg_name, asg_tup2, wipe_nil, wipe_cons, truth_bl, cont_ref, cont_tup, cont_lst, cont_scr, cont_int, cont_bl, cont_non, cont_str, cont_dct, bin_int, in_add, in_sub, cmp_lt, cmp_le, cmp_gt, cmp_ge, cmp_isnBl, cmp_eqI, cmp_neI, cmp_eqB, cmp_neB, at_0, at_1, at_2, fin_ret, fin_next, fin_keep, fin_exc, clean_int, clean_bl, clean_non, seq_tup, seq_lst, List.getElem?_cons_zero, List.getElem?_cons_succ, List.set_cons_zero, List.set_cons_succ, Option.map_some, List.map_cons, List.map_nil, if_true, if_false, Bool.false_eq_true, Bool.not_true, Bool.not_false, Bool.and_true, Bool.true_and, Bool.false_and, decide_true, decide_false, List.replicate, List.append, List.nil_append, List.cons_append, q])
    rw [List.map_id] at hc
    have he : ((l.filter fun x => !isI x).map fun _ => D.int 1) = ((l.filter fun x => !isI x).map fun _ => (1 : Int)).map D.int := by
      rw [List.map_map]
      rfl
    have hm : cmpS M .ne (.lst (((l.filter fun x => !isI x).map fun _ => (1 : Int)).map D.int)) (.lst []) = some (!decide (((l.filter fun x => !isI x).map fun _ => (1 : Int)) = [])) := cmp_neL M _ []
    have hz : ([] : List D).length ≤ lim := Nat.zero_le _
    cases ha : allInts l with
    | none =>
      have h2 : decide (((l.filter fun x => !isI x).map fun _ => (1 : Int)) = []) = false := decide_eq_false fun e => notInt ha (by simpa using e)
      simp only [bOrd, x_nil, x_cons, x_asg, x_ex, x_ret, x_ite, x_for, x_setI, x_aug, x_raise, e_var, e_lit, e_bin, e_neg, e_cmp, e_chain, e_and, e_or, e_not, e_ite, e_tru, e_tup, e_new, e_call, e_blt, e_mth, e_idx, e_slc, e_rev, p_nil, p_cons, es_nil, es_cons, c_nil, c_cons, n_disp, n_comp, n_comp2, n_listOf, n_listRg, n_sorted, n_dict0, i_seq, i_range, i_enum, i_zip, clOf_call', cl_call, clOf_hi2, clOf_lower2, R.bind_ok, R.bind_exc, R.then_ok, R.then_exc, R.nx_ok, RS.seq_next, RS.seq_ret, RS.seq_exc, ofO_some, asg_name, asg_tup2, wipe_nil, wipe_cons, truth_bl, cont_ref, cont_tup, cont_lst, cont_scr, cont_int, cont_bl, cont_non, cont_str, cont_dct, bin_int, in_add, in_sub, cmp_lt, cmp_le, cmp_gt, cmp_ge, cmp_isnBl, cmp_eqI, cmp_neI, cmp_eqB, cmp_neB, at_0, at_1, at_2, fin_ret, fin_next, fin_keep, fin_exc, clean_int, clean_bl, clean_non, seq_tup, seq_lst, List.getElem?_cons_zero, List.getElem?_cons_succ, List.set_cons_zero, List.set_cons_succ, Option.map_some, List.map_cons, List.map_nil, if_true, if_false, Bool.false_eq_true, Bool.not_true, Bool.not_false, Bool.and_true, Bool.true_and, Bool.false_and, decide_true, decide_false, List.replicate, List.append, List.nil_append, List.cons_append, ist_tup, blt_lenT, hne, hl, hc, he, hm, h2, hz]
    | some ns =>
      have h2 : decide (((l.filter fun x => !isI x).map fun _ => (1 : Int)) = []) = true := by rw [allInt ha]; rfl
      have hr : (rgOk 0 n && decide ((n - 0).toNat ≤ 2 ^ 24)) = true := by
        unfold rgOk
        simp only [Bool.and_eq_true, decide_eq_true_eq]
        omega
      have hq : cmpS M .eq (.lst ((sortI ns).map .int)) (.lst (rgL 0 n)) = some (srtIs n ns) := by
        rw [rg0, cmp_eqL]
        rfl
      simp only [bOrd, x_nil, x_cons, x_asg, x_ex, x_ret, x_ite, x_for, x_setI, x_aug, x_raise, e_var, e_lit, e_bin, e_neg, e_cmp, e_chain, e_and, e_or, e_not, e_ite, e_tru, e_tup, e_new, e_call, e_blt, e_mth, e_idx, e_slc, e_rev, p_nil, p_cons, es_nil, es_cons, c_nil, c_cons, n_disp, n_comp, n_comp2, n_listOf, n_listRg, n_sorted, n_dict0, i_seq, i_range, i_enum, i_zip, clOf_call', cl_call, clOf_hi2, clOf_lower2, R.bind_ok, R.bind_exc, R.then_ok, R.then_exc, R.nx_ok, RS.seq_next, RS.seq_ret, RS.seq_exc, ofO_some, asg_name, asg_tup2, wipe_nil, wipe_cons, truth_bl, cont_ref, cont_tup, cont_lst, cont_scr, cont_int, cont_bl, cont_non, cont_str, cont_dct, bin_int, in_add, in_sub, cmp_lt, cmp_le, cmp_gt, cmp_ge, cmp_isnBl, cmp_eqI, cmp_neI, cmp_eqB, cmp_neB, at_0, at_1, at_2, fin_ret, fin_next, fin_keep, fin_exc, clean_int, clean_bl, clean_non, seq_tup, seq_lst, List.getElem?_cons_zero, List.getElem?_cons_succ, List.set_cons_zero, List.set_cons_succ, Option.map_some, List.map_cons, List.map_nil, if_true, if_false, Bool.false_eq_true, Bool.not_true, Bool.not_false, Bool.and_true, Bool.true_and, Bool.false_and, decide_true, decide_false, List.replicate, List.append, List.nil_append, List.cons_append, ist_tup, blt_lenT, hne, hl, hc, he, hm, h2, hz, ha, hr, hq]
  · have h2 : decide (((l.length : Nat) : Int) = n) = false := decide_eq_false hne
    simp only [bOrd, x_nil, x_cons, x_asg, x_ex, x_ret, x_ite, x_for, x_setI, x_aug, x_raise, e_var, e_lit, e_bin, e_neg, e_cmp, e_chain, e_and, e_or, e_not, e_ite, e_tru, e_tup, e_new, e_call, e_blt, e_mth, e_idx, e_slc, e_rev, p_nil, p_cons, es_nil, es_cons, c_nil, c_cons, n_disp, n_comp, n_comp2, n_listOf, n_listRg, n_sorted, n_dict0, i_seq, i_range, i_enum, i_zip, clOf_call', cl_call, clOf_hi2, clOf_lower2, R.bind_ok, R.bind_exc, R.then_ok, R.then_exc, R.nx_ok, RS.seq_next, RS.seq_ret, RS.seq_exc, ofO_some, asg_name, asg_tup2, wipe_nil, wipe_cons, truth_bl, cont_ref, cont_tup, cont_lst, cont_scr, cont_int, cont_bl, cont_non, cont_str, cont_dct, bin_int, in_add, in_sub, cmp_lt, cmp_le, cmp_gt, cmp_ge, cmp_isnBl, cmp_eqI, cmp_neI, cmp_eqB, cmp_neB, at_0, at_1, at_2, fin_ret, fin_next, fin_keep, fin_exc, clean_int, clean_bl, clean_non, seq_tup, seq_lst, List.getElem?_cons_zero, List.getElem?_cons_succ, List.set_cons_zero, List.set_cons_succ, Option.map_some, List.map_cons, List.map_nil, if_true, if_false, Bool.false_eq_true, Bool.not_true, Bool.not_false, Bool.and_true, Bool.true_and, Bool.false_and, decide_true, decide_false, List.replicate, List.append, List.nil_append, List.cons_append, ist_tup, blt_lenT, h2]
end EW
/-! k76's plain law: weighted ends. -/
namespace Z76
abbrev Tk := Int × Int
/-- the sum of weighted ends, going along -/
def esGo : List Tk → Int → Int → Int
  | [], _, f => f
  | t :: r, e, f => esGo r (e + t.1) (f + (e + t.1) * t.2)
def es (p : List Tk) : Int := esGo p 0 0
def cross (t : Tk) : List Tk → Int
  | [] => 0
  | u :: r => t.1 * u.2 + cross t r
def es' : List Tk → Int
  | [] => 0
  | t :: r => t.1 * t.2 + cross t r + es' r
def wsum : List Tk → Int
  | [] => 0
  | u :: r => u.2 + wsum r
theorem cross_is (t : Tk) : ∀ r, cross t r = t.1 * wsum r
  | [] => by simp [cross, wsum]
  | u :: r => by simp [cross, wsum, cross_is t r, Int.mul_add]
theorem esGo_is : ∀ (p : List Tk) (e f : Int), esGo p e f = f + e * wsum p + es' p
  | [], e, f => by simp [esGo, wsum, es']
  | t :: r, e, f => by
    rw [esGo, esGo_is r, wsum, es', cross_is]
    simp only [Int.add_mul, Int.mul_add]
    omega
theorem es_is (p : List Tk) : es p = es' p := by simp [es, esGo_is]
/-! by pairs -/
def mn (t u : Tk) : Int := if u.2 * t.1 < t.2 * u.1 then u.2 * t.1 else t.2 * u.1
def mcross (t : Tk) : List Tk → Int
  | [] => 0
  | u :: r => mn t u + mcross t r
def smith : List Tk → Int
  | [] => 0
  | t :: r => t.1 * t.2 + mcross t r + smith r
theorem mn_comm (t u : Tk) : mn t u = mn u t := by
  unfold mn
  split <;> split <;> omega
theorem mcross_perm (t : Tk) {p q : List Tk} (h : p.Perm q) : mcross t p = mcross t q := by
  induction h with
  | nil => rfl
  | cons x _ ih => simp [mcross, ih]
  | swap x y l => simp only [mcross]; omega
  | trans _ _ a b => exact a.trans b
theorem smith_perm {p q : List Tk} (h : p.Perm q) : smith p = smith q := by
  induction h with
  | nil => rfl
  | cons x h ih => simp [smith, ih, mcross_perm x h]
  | swap x y l =>
    simp only [smith, mcross]
    rw [mn_comm x y]
    omega
  | trans _ _ a b => exact a.trans b
/-- t may stand ahead of u -/
def le (t u : Tk) : Bool := decide (t.1 * u.2 ≤ t.2 * u.1)
def like (t u : Tk) : Bool := decide (t.1 * u.2 = u.1 * t.2)
theorem mn_le (t u : Tk) : mn t u ≤ t.1 * u.2 := by
  unfold mn
  rw [Int.mul_comm u.2 t.1]
  split <;> omega
theorem mn_eq (t u : Tk) : mn t u = t.1 * u.2 ↔ le t u = true := by
  unfold mn le
  rw [Int.mul_comm u.2 t.1, decide_eq_true_eq]
  split <;> omega
theorem mcross_le (t : Tk) : ∀ r, mcross t r ≤ cross t r
  | [] => Int.le_refl _
  | u :: r => by
    have := mn_le t u
    have := mcross_le t r
    simp only [mcross, cross]
    omega
theorem mcross_eq (t : Tk) : ∀ r, mcross t r = cross t r ↔ ∀ u ∈ r, le t u = true
  | [] => by simp [mcross, cross]
  | u :: r => by
    have h1 := mn_le t u
    have h2 := mcross_le t r
    have h3 := mn_eq t u
    have h4 := mcross_eq t r
    simp only [mcross, cross, List.forall_mem_cons]
    rw [← h3, ← h4]
    omega
theorem smith_le : ∀ p, smith p ≤ es' p
  | [] => Int.le_refl _
  | t :: r => by
    have := mcross_le t r
    have := smith_le r
    simp only [smith, es']
    omega
theorem smith_eq : ∀ p, es' p = smith p ↔ p.Pairwise (fun t u => le t u = true)
  | [] => by simp [smith, es']
  | t :: r => by
    have h1 := mcross_le t r
    have h2 := smith_le r
    have h3 := mcross_eq t r
    have h4 := smith_eq r
    rw [List.pairwise_cons, ← h3, ← h4]
    simp only [smith, es']
    omega
/-! the order of the tasks -/
def Ok (t : Tk) : Prop := 1 ≤ t.1 ∧ t.1 ≤ 99 ∧ 0 ≤ t.2 ∧ t.2 ≤ 99
theorem le_total (t u : Tk) : le t u = true ∨ le u t = true := by
  unfold le
  simp only [decide_eq_true_eq]
  rw [Int.mul_comm u.1 t.2, Int.mul_comm u.2 t.1]
  omega
theorem le_trans {a b c : Tk} (ha : Ok a) (hb : Ok b) (hc : Ok c) (h1 : le a b = true) (h2 : le b c = true) : le a c = true := by
  unfold le at *
  simp only [decide_eq_true_eq] at *
  -- a1 b2 ≤ a2 b1, b1 c2 ≤ b2 c1, so a1 b1 c2 ≤ a1 b2 c1 ≤ a2 b1 c1
  have e1 : a.1 * (b.1 * c.2) ≤ a.1 * (b.2 * c.1) := Int.mul_le_mul_of_nonneg_left h2 (by have := ha.1; omega)
  have e2 : (a.1 * b.2) * c.1 ≤ (a.2 * b.1) * c.1 := Int.mul_le_mul_of_nonneg_right h1 (by have := hc.1; omega)
  have e3 : b.1 * (a.1 * c.2) ≤ b.1 * (a.2 * c.1) := by
    have x1 : b.1 * (a.1 * c.2) = a.1 * (b.1 * c.2) := by rw [← Int.mul_assoc, Int.mul_comm b.1 a.1, Int.mul_assoc]
    have x2 : b.1 * (a.2 * c.1) = (a.2 * b.1) * c.1 := by rw [← Int.mul_assoc, Int.mul_comm b.1 a.2]
    have x3 : a.1 * (b.2 * c.1) = (a.1 * b.2) * c.1 := by rw [Int.mul_assoc]
    omega
  exact Int.le_of_mul_le_mul_left e3 (by have := hb.1; omega)
theorem like_is (t u : Tk) : like t u = (le t u && le u t) := by
  unfold like le
  rw [Int.mul_comm u.2 t.1, Int.mul_comm t.2 u.1]
  by_cases h : t.1 * u.2 = u.1 * t.2
  · simp [h]
  · have : ¬ (t.1 * u.2 ≤ u.1 * t.2 ∧ u.1 * t.2 ≤ t.1 * u.2) := by omega
    simp only [h, decide_false]
    symm
    rw [Bool.and_eq_false_iff]
    simp only [decide_eq_false_iff_not]
    omega
/-- by neighbours -/
def adj : List Tk → Bool
  | t :: u :: r => le t u && adj (u :: r)
  | _ => true
theorem adj_is : ∀ p : List Tk, (∀ t ∈ p, Ok t) → (adj p = true ↔ p.Pairwise (fun t u => le t u = true))
  | [], _ => by simp [adj]
  | [t], _ => by simp [adj]
  | t :: u :: r, h => by
    have ih := adj_is (u :: r) fun x hx => h x (List.mem_cons_of_mem _ hx)
    have ht := h t List.mem_cons_self
    have hu := h u (List.mem_cons_of_mem _ List.mem_cons_self)
    rw [adj, Bool.and_eq_true, ih]
    constructor
    · rintro ⟨h1, h2⟩
      refine List.pairwise_cons.mpr ⟨fun x hx => ?_, h2⟩
      rcases List.mem_cons.mp hx with rfl | hx
      · exact h1
      · exact le_trans ht hu (h x (by simp [hx])) h1 ((List.pairwise_cons.mp h2).1 x hx)
    · intro hp
      obtain ⟨h1, h2⟩ := List.pairwise_cons.mp hp
      exact ⟨h1 u List.mem_cons_self, h2⟩

/-! ### where one more may stand -/
def srt : List Tk → Bool
  | [] => true
  | t :: r => r.all (le t) && srt r
theorem srt_is : ∀ p, srt p = true ↔ p.Pairwise (fun t u => le t u = true)
  | [] => by simp [srt]
  | t :: r => by simp [srt, srt_is r, List.pairwise_cons, List.all_eq_true]
/-- how many of the len + 1 places -/
def places (p : List Tk) (x : Tk) : Nat := (List.range (p.length + 1)).countP fun k => srt (p.insertIdx k x)
theorem places_cons (a : Tk) (p : List Tk) (x : Tk) : places (a :: p) x = (if srt (x :: a :: p) then 1 else 0) + (List.range (p.length + 1)).countP fun k => srt (a :: p.insertIdx k x) := by
  unfold places
  rw [List.length_cons, List.range_succ_eq_map, List.countP_cons, List.countP_map]
  simp only [List.insertIdx_zero, Function.comp_def, List.insertIdx_succ_cons]
  exact Nat.add_comm _ _
theorem srt_cons_ins (a : Tk) (p : List Tk) (x : Tk) (k : Nat) (hk : k ≤ p.length) : srt (a :: p.insertIdx k x) = (p.all (le a) && (le a x && srt (p.insertIdx k x))) := by
  have e : (p.insertIdx k x).all (le a) = (p.all (le a) && le a x) := by
    rw [Bool.eq_iff_iff]
    simp only [List.all_eq_true, Bool.and_eq_true]
    constructor
    · intro h
      exact ⟨fun y hy => h y ((List.mem_insertIdx hk).mpr (.inr hy)), h x ((List.mem_insertIdx hk).mpr (.inl rfl))⟩
    · rintro ⟨h1, h2⟩ y hy
      rcases (List.mem_insertIdx hk).mp hy with rfl | hy
      · exact h2
      · exact h1 y hy
  show ((p.insertIdx k x).all (le a) && srt (p.insertIdx k x)) = _
  rw [e, Bool.and_assoc]
theorem places_is : ∀ (p : List Tk) (x : Tk), (∀ t ∈ p, Ok t) → Ok x → srt p = true → places p x = 1 + p.countP (like x)
  | [], x, _, _, _ => by
    have : List.range 1 = [0] := rfl
    simp [places, srt, this]
  | a :: p, x, ho, hx, hs => by
    have hp : srt p = true := by
      simp only [srt, Bool.and_eq_true] at hs
      exact hs.2
    have ha : p.all (le a) = true := by
      simp only [srt, Bool.and_eq_true] at hs
      exact hs.1
    have oa := ho a List.mem_cons_self
    have op : ∀ t ∈ p, Ok t := fun t h => ho t (List.mem_cons_of_mem _ h)
    have ih := places_is p x op hx hp
    rw [places_cons]
    have e : (List.range (p.length + 1)).countP (fun k => srt (a :: p.insertIdx k x)) = if le a x then places p x else 0 := by
      unfold places
      rw [show (List.range (p.length + 1)).countP (fun k => srt (a :: p.insertIdx k x)) = (List.range (p.length + 1)).countP (fun k => le a x && srt (p.insertIdx k x)) from List.countP_congr fun k hk => by
        rw [srt_cons_ins a p x k (by have := List.mem_range.mp hk; omega), ha]
        simp]
      split <;> rename_i h <;> simp [h]
    rw [e, List.countP_cons]
    have e2 : srt (x :: a :: p) = (le x a && p.all (le x)) := by
      show ((a :: p).all (le x) && srt (a :: p)) = _
      rw [hs]
      simp
    rw [e2, like_is]
    by_cases h1 : le x a = true
    · have h3 : p.all (le x) = true := List.all_eq_true.mpr fun t ht => le_trans hx oa (op t ht) h1 (List.all_eq_true.mp ha t ht)
      by_cases h2 : le a x = true
      · simp [h1, h2, h3, ih]
        omega
      · have : p.countP (like x) = 0 := by
          rw [List.countP_eq_zero]
          intro t ht hl
          rw [like_is, Bool.and_eq_true] at hl
          exact h2 (le_trans oa (op t ht) hx (List.all_eq_true.mp ha t ht) hl.2)
        simp [h1, h2, h3, this]
    · have h2 : le a x = true := (le_total x a).resolve_left h1
      simp [h1, h2, ih]
/-! not sorted: no place -/
theorem srt_of_ins : ∀ (p : List Tk) (x : Tk) (k : Nat), k ≤ p.length → srt (p.insertIdx k x) = true → srt p = true
  | p, x, 0, _, h => by
    rw [List.insertIdx_zero] at h
    simp only [srt, Bool.and_eq_true] at h
    exact h.2
  | [], x, k + 1, hk, h => rfl
  | a :: p, x, k + 1, hk, h => by
    have hk' : k ≤ p.length := by simpa using hk
    rw [List.insertIdx_succ_cons, srt_cons_ins a p x k hk'] at h
    simp only [Bool.and_eq_true] at h
    simp only [srt, Bool.and_eq_true]
    exact ⟨h.1, srt_of_ins p x k hk' h.2.2⟩
theorem places_no {p : List Tk} {x : Tk} (h : srt p = false) : places p x = 0 := by
  unfold places
  rw [List.countP_eq_zero]
  intro k hk hs
  rw [srt_of_ins p x k (by have := List.mem_range.mp hk; omega) hs] at h
  cases h
end Z76
/-! k76's plain law: all orders. -/
namespace Z76
def isP (n : Nat) (o : List Nat) : Prop := o.length = n ∧ o.Nodup ∧ ∀ x ∈ o, x < n
/-! by one more at any place -/
def Qn : Nat → List (List Nat)
  | 0 => [[]]
  | n + 1 => (Qn n).flatMap fun o => (List.range (n + 1)).map fun k => o.insertIdx k n
theorem ins_erase (n : Nat) : ∀ (o : List Nat) (k : Nat), n ∉ o → k ≤ o.length → (o.insertIdx k n).erase n = o
  | o, 0, _, _ => by simp
  | [], k + 1, _, h => by simp at h
  | a :: o, k + 1, hn, h => by
    have ha : ¬ a = n := fun e => hn (by simp [e])
    rw [List.insertIdx_succ_cons, List.erase_cons_tail (by simpa using ha), ins_erase n o k (fun z => hn (List.mem_cons_of_mem _ z)) (by simpa using h)]
theorem ins_idx (n : Nat) : ∀ (o : List Nat) (k : Nat), n ∉ o → k ≤ o.length → (o.insertIdx k n).idxOf n = k
  | o, 0, _, _ => by simp
  | [], k + 1, _, h => by simp at h
  | a :: o, k + 1, hn, h => by
    have ha : ¬ a = n := fun e => hn (by simp [e])
    rw [List.insertIdx_succ_cons, List.idxOf_cons, ins_idx n o k (fun z => hn (List.mem_cons_of_mem _ z)) (by simpa using h)]
    rw [show (a == n) = false by simpa using ha]
    rfl
theorem erase_ins (n : Nat) : ∀ (o : List Nat), n ∈ o → (o.erase n).insertIdx (o.idxOf n) n = o
  | [], h => by simp at h
  | a :: o, h => by
    by_cases ha : a = n
    · subst ha
      simp
    · have hm : n ∈ o := by
        rcases List.mem_cons.mp h with e | e
        · exact absurd e.symm ha
        · exact e
      have ih := erase_ins n o hm
      rw [List.erase_cons_tail (by simpa using ha), List.idxOf_cons]
      rw [show (a == n) = false by simpa using ha]
      show (a :: o.erase n).insertIdx (o.idxOf n + 1) n = _
      rw [List.insertIdx_succ_cons, ih]
theorem isP_ins {n : Nat} {o : List Nat} (h : isP n o) {k : Nat} (hk : k ≤ n) : isP (n + 1) (o.insertIdx k n) := by
  obtain ⟨h1, h2, h3⟩ := h
  have hk' : k ≤ o.length := by omega
  have hn : n ∉ o := fun z => Nat.lt_irrefl _ (h3 n z)
  have pm : (o.insertIdx k n).Perm (n :: o) := List.perm_insertIdx n o hk'
  refine ⟨by rw [pm.length_eq, List.length_cons, h1], pm.nodup_iff.mpr (List.nodup_cons.mpr ⟨hn, h2⟩), fun x hx => ?_⟩
  rcases List.mem_cons.mp (pm.mem_iff.mp hx) with e | e
  · omega
  · have := h3 x e
    omega
theorem isP_has {n : Nat} {o : List Nat} (h : isP (n + 1) o) : n ∈ o := by
  obtain ⟨h1, h2, h3⟩ := h
  by_cases hn : n ∈ o
  · exact hn
  · have := h2.length_le_of_subset (l₂ := List.range n) fun x hx => by
      have a := h3 x hx
      have b : x ≠ n := fun e => hn (e ▸ hx)
      exact List.mem_range.mpr (by omega)
    rw [List.length_range] at this
    omega
theorem isP_del {n : Nat} {o : List Nat} (h : isP (n + 1) o) : isP n (o.erase n) := by
  have hm := isP_has h
  obtain ⟨h1, h2, h3⟩ := h
  refine ⟨by rw [List.length_erase_of_mem hm]; omega, h2.erase n, fun x hx => ?_⟩
  have e := (h2.mem_erase_iff).mp hx
  have := h3 x e.2
  have := e.1
  omega
theorem Qn_mem : ∀ (n : Nat) (o : List Nat), o ∈ Qn n ↔ isP n o
  | 0, o => by
    simp only [Qn, List.mem_singleton]
    constructor
    · rintro rfl
      exact ⟨rfl, List.nodup_nil, by simp⟩
    · rintro ⟨h, _, _⟩
      exact List.length_eq_zero_iff.mp h
  | n + 1, o => by
    simp only [Qn, List.mem_flatMap, List.mem_map, List.mem_range]
    constructor
    · rintro ⟨p, hp, k, hk, rfl⟩
      exact isP_ins ((Qn_mem n p).mp hp) (by omega)
    · intro h
      have hm := isP_has h
      refine ⟨o.erase n, (Qn_mem n _).mpr (isP_del h), o.idxOf n, ?_, erase_ins n o hm⟩
      have := List.idxOf_lt_length_iff.mpr hm
      rw [h.1] at this
      exact this
theorem Qn_nodup : ∀ n : Nat, (Qn n).Nodup
  | 0 => by simp [Qn]
  | n + 1 => by
    have hq : ∀ o ∈ Qn n, n ∉ o ∧ o.length = n := fun o ho => by
      obtain ⟨h1, h2, h3⟩ := (Qn_mem n o).mp ho
      exact ⟨fun z => Nat.lt_irrefl _ (h3 n z), h1⟩
    unfold Qn
    rw [List.Nodup, List.pairwise_flatMap]
    refine ⟨fun o ho => ?_, (Qn_nodup n).imp_of_mem fun {a b} ha hb hab x hx y hy e => ?_⟩
    · obtain ⟨hn, hl⟩ := hq o ho
      rw [List.pairwise_map]
      refine (List.nodup_range (n := n + 1)).imp_of_mem fun {i j} hi hj hij e => hij ?_
      have hi := List.mem_range.mp hi
      have hj := List.mem_range.mp hj
      have := ins_idx n o i hn (by omega)
      rw [e, ins_idx n o j hn (by omega)] at this
      exact this.symm
    · obtain ⟨hn, hl⟩ := hq a ha
      obtain ⟨hn', hl'⟩ := hq b hb
      obtain ⟨i, hi, rfl⟩ := List.mem_map.mp hx
      obtain ⟨j, hj, rfl⟩ := List.mem_map.mp hy
      have hi := List.mem_range.mp hi
      have hj := List.mem_range.mp hj
      have := ins_erase n a i hn (by omega)
      rw [e, ins_erase n b j hn' (by omega)] at this
      exact hab this.symm
/-! level by level -/
def lvStep (n : Nat) (o : List Nat) : List (List Nat) := ((List.range n).filter fun x => !o.contains x).map fun x => o ++ [x]
def lv (n : Nat) : Nat → List (List Nat)
  | 0 => [[]]
  | t + 1 => (lv n t).flatMap (lvStep n)
theorem lvStep_mem {n : Nat} {o p : List Nat} : p ∈ lvStep n o ↔ ∃ x, x < n ∧ x ∉ o ∧ p = o ++ [x] := by
  unfold lvStep
  simp only [List.mem_map, List.mem_filter, List.mem_range, Bool.not_eq_true', List.contains_eq_mem, decide_eq_false_iff_not]
  constructor
  · rintro ⟨x, ⟨h1, h2⟩, rfl⟩
    exact ⟨x, h1, h2, rfl⟩
  · rintro ⟨x, h1, h2, rfl⟩
    exact ⟨x, ⟨h1, h2⟩, rfl⟩
theorem lv_mem (n : Nat) : ∀ (t : Nat) (p : List Nat), p ∈ lv n t ↔ p.length = t ∧ p.Nodup ∧ ∀ x ∈ p, x < n
  | 0, p => by
    simp only [lv, List.mem_singleton]
    constructor
    · rintro rfl
      exact ⟨rfl, List.nodup_nil, by simp⟩
    · rintro ⟨h, _, _⟩
      exact List.length_eq_zero_iff.mp h
  | t + 1, p => by
    simp only [lv, List.mem_flatMap]
    constructor
    · rintro ⟨o, ho, hp⟩
      obtain ⟨x, h1, h2, rfl⟩ := lvStep_mem.mp hp
      obtain ⟨a, b, c⟩ := (lv_mem n t o).mp ho
      refine ⟨by simp [a], ?_, fun y hy => ?_⟩
      · rw [List.nodup_append]
        refine ⟨b, by simp, fun u hu v hv => ?_⟩
        simp at hv
        subst hv
        exact fun e => h2 (e ▸ hu)
      · rcases List.mem_append.mp hy with e | e
        · exact c y e
        · simp at e
          omega
    · rintro ⟨a, b, c⟩
      rcases List.eq_nil_or_concat p with e | ⟨o, x, e⟩
      · subst e
        simp at a
      · rw [List.concat_eq_append] at e
        subst e
        rw [List.nodup_append] at b
        refine ⟨o, (lv_mem n t o).mpr ⟨by simpa using a, b.1, fun y hy => c y (List.mem_append_left _ hy)⟩, lvStep_mem.mpr ⟨x, c x (by simp), fun z => b.2.2 x z x (by simp) rfl, rfl⟩⟩
theorem lv_nodup (n : Nat) : ∀ t : Nat, (lv n t).Nodup
  | 0 => by simp [lv]
  | t + 1 => by
    unfold lv
    rw [List.Nodup, List.pairwise_flatMap]
    refine ⟨fun o ho => ?_, (lv_nodup n t).imp_of_mem fun {a b} ha hb hab x hx y hy e => ?_⟩
    · unfold lvStep
      rw [List.pairwise_map]
      refine List.Pairwise.filter _ ((List.nodup_range (n := n)).imp fun {i j} hij e => hij ?_)
      have := List.append_cancel_left e
      simpa using this
    · obtain ⟨i, _, _, rfl⟩ := lvStep_mem.mp hx
      obtain ⟨j, _, _, rfl⟩ := lvStep_mem.mp hy
      exact hab (List.append_inj_left' e rfl)
theorem lv_perm (n : Nat) : (lv n n).Perm (Qn n) := (List.perm_ext_iff_of_nodup (lv_nodup n n) (Qn_nodup n)).mpr fun o => (lv_mem n n o).trans (Qn_mem n o).symm
theorem lv_len (n : Nat) : ∀ t : Nat, (lv n t).length ≤ n ^ t
  | 0 => by simp [lv]
  | t + 1 => by
    unfold lv
    rw [List.length_flatMap]
    have h : ∀ l : List (List Nat), (l.map fun a => (lvStep n a).length).sum ≤ l.length * n := fun l => by
      induction l with
      | nil => simp
      | cons a l ih =>
        have : (lvStep n a).length ≤ n := by
          unfold lvStep
          rw [List.length_map]
          exact Nat.le_trans (List.length_filter_le _ _) (by simp)
        simp only [List.map_cons, List.sum_cons, List.length_cons, Nat.add_mul, Nat.one_mul]
        omega
    rw [Nat.pow_succ]
    exact Nat.le_trans (h _) (Nat.mul_le_mul_right n (lv_len n t))
/-! the tasks in an order -/
def tk (ts : List Tk) (i : Nat) : Tk := ts.getD i (0, 0)
def arr (ts : List Tk) (o : List Nat) : List Tk := o.map (tk ts)
theorem arr_range (ts : List Tk) (n : Nat) (h : n ≤ ts.length) : arr ts (List.range n) = ts.take n := by
  apply List.ext_getElem?
  intro i
  unfold arr
  rw [List.getElem?_map, List.getElem?_take]
  by_cases hi : i < n
  · rw [List.getElem?_range hi, if_pos hi]
    show some (ts.getD i (0, 0)) = _
    rw [List.getD_eq_getElem?_getD, List.getElem?_eq_getElem (by omega)]
    rfl
  · rw [if_neg hi, List.getElem?_eq_none (by simpa using hi)]
    rfl
theorem isP_perm {n : Nat} {o : List Nat} (h : isP n o) : o.Perm (List.range n) := by
  refine (List.perm_ext_iff_of_nodup h.2.1 List.nodup_range).mpr fun x => ?_
  rw [List.mem_range]
  constructor
  · exact h.2.2 x
  · intro hx
    by_cases hm : x ∈ o
    · exact hm
    · have := (List.nodup_cons.mpr ⟨hm, h.2.1⟩).length_le_of_subset (l₂ := List.range n) fun y hy => by
        rcases List.mem_cons.mp hy with e | e
        · rw [e]
          exact List.mem_range.mpr hx
        · exact List.mem_range.mpr (h.2.2 y e)
      rw [List.length_cons, List.length_range, h.1] at this
      omega
theorem arr_perm {ts : List Tk} {n : Nat} {o : List Nat} (hn : n ≤ ts.length) (h : isP n o) : (arr ts o).Perm (ts.take n) := by
  rw [← arr_range ts n hn]
  exact (isP_perm h).map _
theorem arr_ins (ts : List Tk) : ∀ (o : List Nat) (k x : Nat), arr ts (o.insertIdx k x) = (arr ts o).insertIdx k (tk ts x)
  | o, 0, x => by simp [arr]
  | [], k + 1, x => by simp [arr]
  | a :: o, k + 1, x => by
    have := arr_ins ts o k x
    simp only [arr] at this
    simp [arr, this]
theorem tk_ok {ts : List Tk} (h : ∀ t ∈ ts, Ok t) {i : Nat} (hi : i < ts.length) : Ok (tk ts i) := by
  unfold tk
  rw [List.getD_eq_getElem?_getD, List.getElem?_eq_getElem hi]
  exact h _ (List.getElem_mem hi)
theorem arr_ok {ts : List Tk} (h : ∀ t ∈ ts, Ok t) {o : List Nat} (ho : ∀ x ∈ o, x < ts.length) : ∀ t ∈ arr ts o, Ok t := by
  intro t ht
  obtain ⟨i, hi, rfl⟩ := List.mem_map.mp ht
  exact tk_ok h (ho i hi)
/-! how many orders are sorted -/
def cntTo (ts : List Tk) : Nat → Nat
  | 0 => 1
  | n + 1 => cntTo ts n * (1 + (ts.take n).countP (like (tk ts n)))
theorem countP_flat {α β : Type} (p : β → Bool) (f : α → List β) : ∀ l : List α, (l.flatMap f).countP p = (l.map fun a => (f a).countP p).sum
  | [] => rfl
  | a :: l => by
    rw [List.flatMap_cons, List.countP_append, countP_flat p f l]
    rfl
theorem sum_if {α : Type} (p : α → Bool) (c : Nat) (g : α → Nat) : ∀ l : List α, (∀ a ∈ l, g a = if p a then c else 0) → (l.map g).sum = l.countP p * c
  | [], _ => by simp
  | a :: l, h => by
    have ih := sum_if p c g l fun b hb => h b (List.mem_cons_of_mem _ hb)
    rw [List.map_cons, List.sum_cons, ih, h a List.mem_cons_self, List.countP_cons]
    by_cases ha : p a = true
    · simp [ha, Nat.add_mul]
      omega
    · simp [ha]
theorem Qn_count {ts : List Tk} (ho : ∀ t ∈ ts, Ok t) : ∀ n : Nat, n ≤ ts.length → (Qn n).countP (fun o => srt (arr ts o)) = cntTo ts n
  | 0, _ => by simp [Qn, cntTo, arr, srt]
  | n + 1, hn => by
    have ih := Qn_count ho n (by omega)
    unfold Qn cntTo
    rw [countP_flat, ← ih]
    refine sum_if (fun o => srt (arr ts o)) _ _ (Qn n) fun o hq => ?_
    have hP := (Qn_mem n o).mp hq
    have hlen : (arr ts o).length = n := by simp [arr, hP.1]
    have e : (List.map (fun k => o.insertIdx k n) (List.range (n + 1))).countP (fun o => srt (arr ts o)) = places (arr ts o) (tk ts n) := by
      unfold places
      rw [List.countP_map, hlen]
      refine List.countP_congr fun k _ => ?_
      simp only [Function.comp_apply]
      rw [arr_ins]
    rw [e]
    by_cases hs : srt (arr ts o) = true
    · rw [if_pos hs, places_is _ _ (arr_ok ho fun x hx => by have := hP.2.2 x hx; omega) (tk_ok ho (by omega)) hs]
      rw [(arr_perm (by omega) hP).countP_eq]
    · rw [if_neg hs, places_no (by simpa using hs)]
/-! the law's numbers -/
def sumO (ts : List Tk) (o : List Nat) : Int := es (arr ts o)
theorem sum_least {ts : List Tk} {o : List Nat} (h : isP ts.length o) : smith ts ≤ sumO ts o := by
  unfold sumO
  rw [es_is]
  have := smith_le (arr ts o)
  rw [smith_perm (arr_perm (Nat.le_refl _) h), List.take_length] at this
  exact this
theorem sum_eq {ts : List Tk} (ho : ∀ t ∈ ts, Ok t) {o : List Nat} (h : isP ts.length o) : sumO ts o = smith ts ↔ srt (arr ts o) = true := by
  unfold sumO
  rw [es_is, srt_is, ← smith_eq, smith_perm (arr_perm (Nat.le_refl _) h), List.take_length]
theorem sum_adj {ts : List Tk} (ho : ∀ t ∈ ts, Ok t) {o : List Nat} (h : isP ts.length o) : sumO ts o = smith ts ↔ adj (arr ts o) = true := by
  rw [sum_eq ho h, srt_is, adj_is _ (arr_ok ho h.2.2)]
theorem count_least {ts : List Tk} (ho : ∀ t ∈ ts, Ok t) : ((lv ts.length ts.length).map (sumO ts)).count (smith ts) = cntTo ts ts.length := by
  rw [← Qn_count ho _ (Nat.le_refl _), ← (lv_perm ts.length).countP_eq, List.count_eq_countP, List.countP_map]
  refine List.countP_congr fun o hm => ?_
  have h := (lv_mem ts.length ts.length o).mp hm
  simp only [Function.comp_apply, beq_iff_eq]
  exact sum_eq ho h
theorem cntTo_pos (ts : List Tk) : ∀ n, 1 ≤ cntTo ts n
  | 0 => Nat.le_refl _
  | n + 1 => Nat.mul_pos (cntTo_pos ts n) (by omega)
theorem least_there {ts : List Tk} (ho : ∀ t ∈ ts, Ok t) : smith ts ∈ (lv ts.length ts.length).map (sumO ts) := by
  have := cntTo_pos ts ts.length
  rw [← count_least ho] at this
  exact List.count_pos_iff.mp this
theorem least_is {ts : List Tk} (ho : ∀ t ∈ ts, Ok t) {m : Int} (hm : m ∈ (lv ts.length ts.length).map (sumO ts)) (hle : ∀ s ∈ (lv ts.length ts.length).map (sumO ts), m ≤ s) : m = smith ts := by
  obtain ⟨o, hq, rfl⟩ := List.mem_map.mp hm
  exact Int.le_antisymm (hle _ (least_there ho)) (sum_least ((lv_mem _ _ _).mp hq))
end Z76
/-! Defs on tasks of the laws k76 to k82: by their bodies, in any table. -/
namespace EW
open MP Z76
variable {T : List FD}
def bEnds_0 : Ss := .cons (.aug 4 .add (.idx (.idx (.var 0) (.var 2)) (.lit (.int 0)))) (.cons (.aug 3 .add (.bin .mul (.var 4) (.idx (.idx (.var 0) (.var 2)) (.lit (.int 1))))) .nil)
def bEnds : Ss := .cons (.asg (.tup [3, 4]) (.tup (.cons (.lit (.int 0)) (.cons (.lit (.int 0)) .nil)))) (.cons (.«for» (.name 2) (.seq (.var 1)) bEnds_0) (.cons (.ret (.var 3)) .nil))
def bSmith_0 : Ss := .cons (.aug 1 .add (.bin .mul (.idx (.var 3) (.lit (.int 0))) (.idx (.var 3) (.lit (.int 1))))) (.cons (.aug 1 .add (.blt .sum (.cons (.new true (.comp [4] (.blt .min (.cons (.bin .mul (.idx (.var 3) (.lit (.int 1))) (.idx (.var 4) (.lit (.int 0)))) (.cons (.bin .mul (.idx (.var 4) (.lit (.int 1))) (.idx (.var 3) (.lit (.int 0)))) .nil))) (.name 4) (.seq (.slc (.var 0) (.cons (.bin .add (.var 2) (.lit (.int 1))) .nil) .nil)) .nil)) .nil))) .nil)
def bSmith : Ss := .cons (.asg (.name 1) (.lit (.int 0))) (.cons (.«for» (.tup [2, 3]) (.enum (.var 0)) bSmith_0) (.cons (.ret (.var 1)) .nil))
def bPairs_0 (i : Nat) : Ss := .cons (.ite (.orE (.notE (.tru (.blt .isinst (.cons (.var 4) (.cons (.lit (.ty "tuple")) .nil))))) (.cmp .ne (.blt .len (.cons (.var 4) .nil)) (.lit (.int 2)))) (.cons (.ret (.lit (.bl false))) .nil) .nil) (.cons (.ite (.orE (.notE (.tru (.call i (.cons (.idx (.var 4) (.lit (.int 0))) (.cons (.lit (.int 1)) (.cons (.lit (.int 99)) .nil)))))) (.notE (.tru (.call i (.cons (.idx (.var 4) (.lit (.int 1))) (.cons (.var 2) (.cons (.var 3) .nil))))))) (.cons (.ret (.lit (.bl false))) .nil) .nil) .nil)
def bPairs (i : Nat) : Ss := .cons (.ite (.orE (.notE (.tru (.blt .isinst (.cons (.var 0) (.cons (.lit (.ty "tuple")) .nil))))) (.notE (.chain .le .le (.lit (.int 1)) (.blt .len (.cons (.var 0) .nil)) (.var 1)))) (.cons (.ret (.lit (.bl false))) .nil) .nil) (.cons (.«for» (.name 4) (.seq (.var 0)) (bPairs_0 i)) (.cons (.ret (.lit (.bl true))) .nil))
def bReqW (i : Nat) : Ss := .cons (.ite (.notE (.tru (.call i (.cons (.var 0) (.cons (.lit (.int 9)) (.cons (.lit (.int 0)) (.cons (.lit (.int 99)) .nil))))))) (.cons (.raise "InvalidJobs" .nil) .nil) .nil) .nil
def bLeast (i j : Nat) : Ss := .cons (.ex (.call i (.cons (.var 0) .nil))) (.cons (.ret (.call j (.cons (.var 0) .nil))) .nil)
def encT (t : Tk) : D := .tup [.int t.1, .int t.2]
def tsD (ts : List Tk) : D := .tup (ts.map encT)
def oL (o : List Nat) : List D := o.map fun i : Nat => D.int (i : Int)
def oD (o : List Nat) : D := .tup (oL o)
abbrev Oks (ts : List Tk) : Prop := ∀ t ∈ ts, Ok t
theorem at_ts {ts : List Tk} {i : Nat} (h : i < ts.length) : L2.atI (ts.map encT) (i : Int) = some (encT (tk ts i)) := by
  refine L2.atI_nat ?_
  rw [List.getElem?_map, List.getElem?_eq_getElem h]
  unfold tk
  rw [List.getD_eq_getElem?_getD, List.getElem?_eq_getElem h]
  rfl
theorem idx_ts {ts : List Tk} {M : List D} {i : Nat} (h : i < ts.length) : idxS M (tsD ts) (.int (i : Int)) = some (encT (tk ts i)) := at_ts h
@[simp] theorem idx_e0 (M : List D) (t : Tk) : idxS M (encT t) (.int 0) = some (.int t.1) := at_0 _ _
@[simp] theorem idx_e1 (M : List D) (t : Tk) : idxS M (encT t) (.int 1) = some (.int t.2) := at_1 _ _ _
theorem ends_go {ts : List Tk} (hv : Oks ts) (cl : Cl) (M : List D) {td : D} (hx : ∀ i < ts.length, idxS M td (.int (i : Int)) = some (encT (tk ts i))) (od : D) (l : List D) : ∀ (o : List Nat) (x : Option D) (f e : Int), (∀ i ∈ o, i < ts.length) →
    ∃ x' e', forL ⟨l, none⟩ (.name 2) (exSs cl bEnds_0) (oL o) [some td, some od, x, some (.int f), some (.int e)] M = .next [some td, some od, x', some (.int (esGo (arr ts o) e f)), some (.int e')] M
  | [], x, f, e, _ => ⟨x, e, rfl⟩
  | i :: o, x, f, e, h => by
    have hi := h i List.mem_cons_self
    have ok := tk_ok hv hi
    obtain ⟨x', e', ih⟩ := ends_go hv cl M hx od l o (some (.int (i : Int))) (f + (e + (tk ts i).1) * (tk ts i).2) (e + (tk ts i).1) fun j hj => h j (List.mem_cons_of_mem _ hj)
    refine ⟨x', e', ?_⟩
    have hm : intS .mul (e + (tk ts i).1) (tk ts i).2 = some ((e + (tk ts i).1) * (tk ts i).2) := in_mul (okR ok.2.2.1 (by have := ok.2.2.2; omega))
    rw [show esGo (arr ts (i :: o)) e f = esGo (arr ts o) (e + (tk ts i).1) (f + (e + (tk ts i).1) * (tk ts i).2) from rfl, ← ih]
    simp [forL, oL, bEnds_0, idx_e0, idx_e1, hx i hi, hm]
theorem ends {i : Nat} (hT : T[i]? = some ⟨false, 2, 5, bEnds⟩) (k : Nat) (M : List D) {ts : List Tk} (hv : Oks ts) {td : D} (hx : ∀ i < ts.length, idxS M td (.int (i : Int)) = some (encT (tk ts i))) {o : List Nat} (ho : ∀ i ∈ o, i < ts.length) : runF T 0 (k + 1) i [td, oD o] M = .ok (.int (sumO ts o)) M := by
  rw [run_eq hT rfl]
  obtain ⟨x', e', h⟩ := ends_go hv (clOf T 0 k) M hx (oD o) (oL o) o none 0 0 ho
  simp [bEnds, oD, lim, PySem.sizeLine] at h ⊢
  rw [h]
  simp [sumO, es]
theorem mcross_sum (t : Tk) : ∀ r, ((r.map (mn t)).sum : Int) = mcross t r
  | [] => rfl
  | u :: r => by simp [mcross, mcross_sum t r]
theorem smith_go {ts : List Tk} (hv : Oks ts) (hl : ts.length ≤ 9) (cl : Cl) (M : List D) (l : List D) : ∀ (r : List Tk) (i : Nat) (f : Int) (x y z : Option D), ts.drop i = r →
    ∃ x' y' z', forL ⟨l, none⟩ (.tup [2, 3]) (exSs cl bSmith_0) (enumL (i : Int) (r.map encT)) [some (tsD ts), some (.int f), x, y, z] M = .next [some (tsD ts), some (.int (f + smith r)), x', y', z'] M
  | [], i, f, x, y, z, _ => ⟨x, y, z, by simp [enumL, forL, smith]⟩
  | t :: r, i, f, x, y, z, h => by
    have hr : ts.drop (i + 1) = r := by
      have := congrArg (List.drop 1) h
      simpa using this
    have hm : ∀ u ∈ t :: r, u ∈ ts := fun u hu => List.mem_of_mem_drop (by rw [h]; exact hu)
    have ot := hv t (hm t List.mem_cons_self)
    have hlen : r.length ≤ 9 := by
      rw [← hr, List.length_drop]
      omega
    obtain ⟨x', y', z', ih⟩ := smith_go hv hl cl M l r (i + 1) (f + t.1 * t.2 + mcross t r) (some (.int (i : Int))) (some (encT t)) z hr
    refine ⟨x', y', z', ?_⟩
    have hmul : intS .mul t.1 t.2 = some (t.1 * t.2) := in_mul (okL (by have := ot.1; omega) (by have := ot.2.1; omega))
    have e1 : ((i : Int) + 1) = ((i + 1 : Nat) : Int) := by omega
    have hs : slcS M (tsD ts) (some ((i + 1 : Nat) : Int)) none = some (.tup (r.map encT)) := by
      rw [show tsD ts = .tup (ts.map encT) from rfl, slc_from, ← List.map_drop, hr]
    have hc := compL_map (w := ⟨r.map encT, none⟩) (tg := .name 4) (L := [some (tsD ts), some (.int (f + t.1 * t.2)), some (.int (i : Int)), some (encT t), none]) (M := M) (cl := cl)
      (elt := evE cl (.blt .min (.cons (.bin .mul (.idx (.var 3) (.lit (.int 1))) (.idx (.var 4) (.lit (.int 0)))) (.cons (.bin .mul (.idx (.var 4) (.lit (.int 1))) (.idx (.var 3) (.lit (.int 0)))) .nil)))) rfl encT (fun u => .int (mn t u)) r (fun u hu => by
        have ou := hv u (hm u (List.mem_cons_of_mem _ hu))
        have h1 : intS .mul t.2 u.1 = some (t.2 * u.1) := in_mul (okL ot.2.2.1 (by have := ot.2.2.2; omega))
        have h2 : intS .mul u.2 t.1 = some (u.2 * t.1) := in_mul (okL ou.2.2.1 (by have := ou.2.2.2; omega))
        refine ⟨_, rfl, ?_⟩
        simp only [x_nil, x_cons, x_asg, x_ex, x_ret, x_ite, x_for, x_setI, x_aug, x_raise, e_var, e_lit, e_bin, e_neg, e_cmp, e_chain, e_and, e_or, e_not, e_ite, e_tru, e_tup, e_new, e_call, e_blt, e_mth, e_idx, e_slc, e_rev, p_nil, p_cons, es_nil, es_cons, c_nil, c_cons, n_disp, n_comp, n_comp2, n_listOf, n_listRg, n_sorted, n_dict0, i_seq, i_range, i_enum, i_zip, clOf_call', cl_call, clOf_hi2, clOf_lower2, R.bind_ok, R.bind_exc, R.then_ok, R.then_exc, R.nx_ok, RS.seq_next, RS.seq_ret, RS.seq_exc, ofO_some, asg_name, asg_tup2, wipe_nil, wipe_cons, truth_bl, cont_ref, cont_tup, cont_lst, cont_scr, cont_int, cont_bl, cont_non, cont_str, cont_dct, bin_int, in_add, in_sub, cmp_lt, cmp_le, cmp_gt, cmp_ge, cmp_isnBl, cmp_eqI, cmp_neI, cmp_eqB, cmp_neB, at_0, at_1, at_2, fin_ret, fin_next, fin_keep, fin_exc, clean_int, clean_bl, clean_non, seq_tup, seq_lst, List.getElem?_cons_zero, List.getElem?_cons_succ, List.set_cons_zero, List.set_cons_succ, Option.map_some, List.map_cons, List.map_nil, if_true, if_false, Bool.false_eq_true, Bool.not_true, Bool.not_false, Bool.and_true, Bool.true_and, Bool.false_and, decide_true, decide_false, List.replicate, List.append, List.nil_append, List.cons_append, idx_e0, idx_e1, h1, h2, bltS, mn])
    have hle : (r.map encT).length ≤ lim := by
      rw [List.length_map]
      exact Nat.le_trans hlen (by decide)
    have goal : exSs cl bSmith_0 [some (tsD ts), some (.int f), some (.int (i : Int)), some (encT t), z] M = .next [some (tsD ts), some (.int (f + t.1 * t.2 + mcross t r)), some (.int (i : Int)), some (encT t), z] M := by
      simp only [bSmith_0, x_nil, x_cons, x_asg, x_ex, x_ret, x_ite, x_for, x_setI, x_aug, x_raise, e_var, e_lit, e_bin, e_neg, e_cmp, e_chain, e_and, e_or, e_not, e_ite, e_tru, e_tup, e_new, e_call, e_blt, e_mth, e_idx, e_slc, e_rev, p_nil, p_cons, es_nil, es_cons, c_nil, c_cons, n_disp, n_comp, n_comp2, n_listOf, n_listRg, n_sorted, n_dict0, i_seq, i_range, i_enum, i_zip, clOf_call', cl_call, clOf_hi2, clOf_lower2, R.bind_ok, R.bind_exc, R.then_ok, R.then_exc, R.nx_ok, RS.seq_next, RS.seq_ret, RS.seq_exc, ofO_some, asg_name, asg_tup2, wipe_nil, wipe_cons, truth_bl, cont_ref, cont_tup, cont_lst, cont_scr, cont_int, cont_bl, cont_non, cont_str, cont_dct, bin_int, in_add, in_sub, cmp_lt, cmp_le, cmp_gt, cmp_ge, cmp_isnBl, cmp_eqI, cmp_neI, cmp_eqB, cmp_neB, at_0, at_1, at_2, fin_ret, fin_next, fin_keep, fin_exc, clean_int, clean_bl, clean_non, seq_tup, seq_lst, List.getElem?_cons_zero, List.getElem?_cons_succ, List.set_cons_zero, List.set_cons_succ, Option.map_some, List.map_cons, List.map_nil, if_true, if_false, Bool.false_eq_true, Bool.not_true, Bool.not_false, Bool.and_true, Bool.true_and, Bool.false_and, decide_true, decide_false, List.replicate, List.append, List.nil_append, List.cons_append, idx_e0, idx_e1, hmul, e1, hs, hle, hc, map_int, blt_sum, mcross_sum]
    have e2 : forL ⟨l, none⟩ (.tup [2, 3]) (exSs cl bSmith_0) (enumL (i : Int) ((t :: r).map encT)) [some (tsD ts), some (.int f), x, y, z] M = forL ⟨l, none⟩ (.tup [2, 3]) (exSs cl bSmith_0) (enumL ((i + 1 : Nat) : Int) (r.map encT)) [some (tsD ts), some (.int (f + t.1 * t.2 + mcross t r)), some (.int (i : Int)), some (encT t), z] M := by
      show (match exSs cl bSmith_0 [some (tsD ts), some (.int f), some (.int (i : Int)), some (encT t), z] M with
        | .next L2 M2 => forL ⟨l, none⟩ (.tup [2, 3]) (exSs cl bSmith_0) (enumL ((i : Int) + 1) (r.map encT)) L2 M2
        | .cont L2 M2 => forL ⟨l, none⟩ (.tup [2, 3]) (exSs cl bSmith_0) (enumL ((i : Int) + 1) (r.map encT)) L2 M2
        | .brk L2 M2 => .next L2 M2
        | .ret d M2 => .ret d M2
        | .exc c e L2 M2 => .exc c e L2 M2
        | .bad => .bad) = _
      rw [goal, e1]
    rw [e2, ih, show smith (t :: r) = t.1 * t.2 + mcross t r + smith r from rfl]
    have : f + t.1 * t.2 + mcross t r + smith r = f + (t.1 * t.2 + mcross t r + smith r) := by omega
    rw [this]
theorem smith_run {i : Nat} (hT : T[i]? = some ⟨false, 1, 5, bSmith⟩) (k : Nat) (M : List D) {ts : List Tk} (hv : Oks ts) (hl : ts.length ≤ 9) : runF T 0 (k + 1) i [tsD ts] M = .ok (.int (smith ts)) M := by
  rw [run_eq hT rfl]
  obtain ⟨x, y, z, h⟩ := smith_go hv hl (clOf T 0 k) M (enumL 0 (ts.map encT)) ts 0 0 none none none rfl
  rw [Int.zero_add] at h
  have h' : forL ⟨enumL 0 (ts.map encT), none⟩ (.tup [2, 3]) (exSs (clOf T 0 k) bSmith_0) (enumL 0 (ts.map encT)) [some (tsD ts), some (.int 0), none, none, none] M = _ := h
  have he : (tsD ts) = .tup (ts.map encT) := rfl
  rw [he] at h' ⊢
  simp only [bSmith, x_nil, x_cons, x_asg, x_ex, x_ret, x_ite, x_for, x_setI, x_aug, x_raise, e_var, e_lit, e_bin, e_neg, e_cmp, e_chain, e_and, e_or, e_not, e_ite, e_tru, e_tup, e_new, e_call, e_blt, e_mth, e_idx, e_slc, e_rev, p_nil, p_cons, es_nil, es_cons, c_nil, c_cons, n_disp, n_comp, n_comp2, n_listOf, n_listRg, n_sorted, n_dict0, i_seq, i_range, i_enum, i_zip, clOf_call', cl_call, clOf_hi2, clOf_lower2, R.bind_ok, R.bind_exc, R.then_ok, R.then_exc, R.nx_ok, RS.seq_next, RS.seq_ret, RS.seq_exc, ofO_some, asg_name, asg_tup2, wipe_nil, wipe_cons, truth_bl, cont_ref, cont_tup, cont_lst, cont_scr, cont_int, cont_bl, cont_non, cont_str, cont_dct, bin_int, in_add, in_sub, cmp_lt, cmp_le, cmp_gt, cmp_ge, cmp_isnBl, cmp_eqI, cmp_neI, cmp_eqB, cmp_neB, at_0, at_1, at_2, fin_ret, fin_next, fin_keep, fin_exc, clean_int, clean_bl, clean_non, seq_tup, seq_lst, List.getElem?_cons_zero, List.getElem?_cons_succ, List.set_cons_zero, List.set_cons_succ, Option.map_some, List.map_cons, List.map_nil, if_true, if_false, Bool.false_eq_true, Bool.not_true, Bool.not_false, Bool.and_true, Bool.true_and, Bool.false_and, decide_true, decide_false, List.replicate, List.append, List.nil_append, List.cons_append, h']
theorem pairs_st {j : Nat} (hA : T[j]? = some ⟨false, 3, 3, bAmt⟩) {t : Tk} (ot : Ok t) (k : Nat) (M : List D) (d : D) (a : Int) : exSs (clOf T 0 (k + 1)) (bPairs_0 j) [some d, some (.int a), some (.int 0), some (.int 99), some (encT t)] M = .next [some d, some (.int a), some (.int 0), some (.int 99), some (encT t)] M := by
  have q1 : runF T 0 (k + 1) j [.int t.1, .int 1, .int 99] M = .ok (.bl true) M := by
    rw [amt_run hA k M _ _ _ rfl, amt_int, decide_eq_true ot.1, decide_eq_true ot.2.1] <;> rfl
  have q2 : runF T 0 (k + 1) j [.int t.2, .int 0, .int 99] M = .ok (.bl true) M := by
    rw [amt_run hA k M _ _ _ rfl, amt_int, decide_eq_true ot.2.2.1, decide_eq_true ot.2.2.2] <;> rfl
  have e1 : bltS M .isinst [encT t, .ty "tuple"] = some (.bl true) := rfl
  have e2 : bltS M .len [encT t] = some (.int 2) := rfl
  simp only [bPairs_0, x_nil, x_cons, x_asg, x_ex, x_ret, x_ite, x_for, x_setI, x_aug, x_raise, e_var, e_lit, e_bin, e_neg, e_cmp, e_chain, e_and, e_or, e_not, e_ite, e_tru, e_tup, e_new, e_call, e_blt, e_mth, e_idx, e_slc, e_rev, p_nil, p_cons, es_nil, es_cons, c_nil, c_cons, n_disp, n_comp, n_comp2, n_listOf, n_listRg, n_sorted, n_dict0, i_seq, i_range, i_enum, i_zip, clOf_call', cl_call, clOf_hi2, clOf_lower2, R.bind_ok, R.bind_exc, R.then_ok, R.then_exc, R.nx_ok, RS.seq_next, RS.seq_ret, RS.seq_exc, ofO_some, asg_name, asg_tup2, wipe_nil, wipe_cons, truth_bl, cont_ref, cont_tup, cont_lst, cont_scr, cont_int, cont_bl, cont_non, cont_str, cont_dct, bin_int, in_add, in_sub, cmp_lt, cmp_le, cmp_gt, cmp_ge, cmp_isnBl, cmp_eqI, cmp_neI, cmp_eqB, cmp_neB, at_0, at_1, at_2, fin_ret, fin_next, fin_keep, fin_exc, clean_int, clean_bl, clean_non, seq_tup, seq_lst, List.getElem?_cons_zero, List.getElem?_cons_succ, List.set_cons_zero, List.set_cons_succ, Option.map_some, List.map_cons, List.map_nil, if_true, if_false, Bool.false_eq_true, Bool.not_true, Bool.not_false, Bool.and_true, Bool.true_and, Bool.false_and, decide_true, decide_false, List.replicate, List.append, List.nil_append, List.cons_append, idx_e0, idx_e1, e1, e2, q1, q2]
theorem pairs_go {j : Nat} (hA : T[j]? = some ⟨false, 3, 3, bAmt⟩) {ts : List Tk} (hv : Oks ts) (k : Nat) (M : List D) (l : List D) (d : D) (a : Int) : ∀ z : Option D, ∃ z', forL ⟨l, none⟩ (.name 4) (exSs (clOf T 0 (k + 1)) (bPairs_0 j)) (ts.map encT) [some d, some (.int a), some (.int 0), some (.int 99), z] M = .next [some d, some (.int a), some (.int 0), some (.int 99), z'] M := by
  induction ts with
  | nil => exact fun z => ⟨z, forL_nil rfl⟩
  | cons t r ih =>
    intro z
    obtain ⟨z', h⟩ := ih (fun u hu => hv u (List.mem_cons_of_mem _ hu)) (some (encT t))
    refine ⟨z', ?_⟩
    rw [List.map_cons, ← h]
    exact forL_cons rfl rfl (pairs_st hA (hv t List.mem_cons_self) k M d a)
theorem pairs {i j : Nat} (hT : T[i]? = some ⟨false, 4, 5, bPairs j⟩) (hA : T[j]? = some ⟨false, 3, 3, bAmt⟩) (k : Nat) (M : List D) {ts : List Tk} (hv : Oks ts) (h1 : 1 ≤ ts.length) (hl : ts.length ≤ 9) : runF T 0 (k + 2) i [tsD ts, .int 9, .int 0, .int 99] M = .ok (.bl true) M := by
  rw [run_eq hT rfl]
  obtain ⟨z, h⟩ := pairs_go hA hv k M (ts.map encT) (.tup (ts.map encT)) 9 none
  have he : (tsD ts) = .tup (ts.map encT) := rfl
  have e1 : decide ((1 : Int) ≤ ((ts.map encT).length : Nat)) = true := by
    rw [List.length_map]
    exact decide_eq_true (by omega)
  have e2 : decide ((((ts.map encT).length : Nat) : Int) ≤ 9) = true := by
    rw [List.length_map]
    exact decide_eq_true (by omega)
  rw [he]
  simp only [bPairs, x_nil, x_cons, x_asg, x_ex, x_ret, x_ite, x_for, x_setI, x_aug, x_raise, e_var, e_lit, e_bin, e_neg, e_cmp, e_chain, e_and, e_or, e_not, e_ite, e_tru, e_tup, e_new, e_call, e_blt, e_mth, e_idx, e_slc, e_rev, p_nil, p_cons, es_nil, es_cons, c_nil, c_cons, n_disp, n_comp, n_comp2, n_listOf, n_listRg, n_sorted, n_dict0, i_seq, i_range, i_enum, i_zip, clOf_call', cl_call, clOf_hi2, clOf_lower2, R.bind_ok, R.bind_exc, R.then_ok, R.then_exc, R.nx_ok, RS.seq_next, RS.seq_ret, RS.seq_exc, ofO_some, asg_name, asg_tup2, wipe_nil, wipe_cons, truth_bl, cont_ref, cont_tup, cont_lst, cont_scr, cont_int, cont_bl, cont_non, cont_str, cont_dct, bin_int, in_add, in_sub, cmp_lt, cmp_le, cmp_gt, cmp_ge, cmp_isnBl, cmp_eqI, cmp_neI, cmp_eqB, cmp_neB, at_0, at_1, at_2, fin_ret, fin_next, fin_keep, fin_exc, clean_int, clean_bl, clean_non, seq_tup, seq_lst, List.getElem?_cons_zero, List.getElem?_cons_succ, List.set_cons_zero, List.set_cons_succ, Option.map_some, List.map_cons, List.map_nil, if_true, if_false, Bool.false_eq_true, Bool.not_true, Bool.not_false, Bool.and_true, Bool.true_and, Bool.false_and, decide_true, decide_false, List.replicate, List.append, List.nil_append, List.cons_append, ist_tup, blt_lenT, e1, e2, h]
theorem reqW {h i j : Nat} (hR : T[h]? = some ⟨false, 1, 1, bReqW i⟩) (hT : T[i]? = some ⟨false, 4, 5, bPairs j⟩) (hA : T[j]? = some ⟨false, 3, 3, bAmt⟩) (k : Nat) (M : List D) {ts : List Tk} (hv : Oks ts) (h1 : 1 ≤ ts.length) (hl : ts.length ≤ 9) : runF T 0 (k + 3) h [tsD ts] M = .ok .non M := by
  rw [run_eq hR rfl]
  have q := pairs hT hA k M hv h1 hl
  simp only [bReqW, x_nil, x_cons, x_asg, x_ex, x_ret, x_ite, x_for, x_setI, x_aug, x_raise, e_var, e_lit, e_bin, e_neg, e_cmp, e_chain, e_and, e_or, e_not, e_ite, e_tru, e_tup, e_new, e_call, e_blt, e_mth, e_idx, e_slc, e_rev, p_nil, p_cons, es_nil, es_cons, c_nil, c_cons, n_disp, n_comp, n_comp2, n_listOf, n_listRg, n_sorted, n_dict0, i_seq, i_range, i_enum, i_zip, clOf_call', cl_call, clOf_hi2, clOf_lower2, R.bind_ok, R.bind_exc, R.then_ok, R.then_exc, R.nx_ok, RS.seq_next, RS.seq_ret, RS.seq_exc, ofO_some, asg_name, asg_tup2, wipe_nil, wipe_cons, truth_bl, cont_ref, cont_tup, cont_lst, cont_scr, cont_int, cont_bl, cont_non, cont_str, cont_dct, bin_int, in_add, in_sub, cmp_lt, cmp_le, cmp_gt, cmp_ge, cmp_isnBl, cmp_eqI, cmp_neI, cmp_eqB, cmp_neB, at_0, at_1, at_2, fin_ret, fin_next, fin_keep, fin_exc, clean_int, clean_bl, clean_non, seq_tup, seq_lst, List.getElem?_cons_zero, List.getElem?_cons_succ, List.set_cons_zero, List.set_cons_succ, Option.map_some, List.map_cons, List.map_nil, if_true, if_false, Bool.false_eq_true, Bool.not_true, Bool.not_false, Bool.and_true, Bool.true_and, Bool.false_and, decide_true, decide_false, List.replicate, List.append, List.nil_append, List.cons_append, q]
theorem least {g s h i j : Nat} (hG : T[g]? = some ⟨false, 1, 1, bLeast h s⟩) (hS : T[s]? = some ⟨false, 1, 5, bSmith⟩) (hR : T[h]? = some ⟨false, 1, 1, bReqW i⟩) (hT : T[i]? = some ⟨false, 4, 5, bPairs j⟩) (hA : T[j]? = some ⟨false, 3, 3, bAmt⟩) (k : Nat) (M : List D) {ts : List Tk} (hv : Oks ts) (h1 : 1 ≤ ts.length) (hl : ts.length ≤ 9) : runF T 0 (k + 4) g [tsD ts] M = .ok (.int (smith ts)) M := by
  rw [run_eq hG rfl]
  have q := reqW hR hT hA k M hv h1 hl
  have q2 := smith_run hS (k + 2) M hv hl
  simp only [bLeast, x_nil, x_cons, x_asg, x_ex, x_ret, x_ite, x_for, x_setI, x_aug, x_raise, e_var, e_lit, e_bin, e_neg, e_cmp, e_chain, e_and, e_or, e_not, e_ite, e_tru, e_tup, e_new, e_call, e_blt, e_mth, e_idx, e_slc, e_rev, p_nil, p_cons, es_nil, es_cons, c_nil, c_cons, n_disp, n_comp, n_comp2, n_listOf, n_listRg, n_sorted, n_dict0, i_seq, i_range, i_enum, i_zip, clOf_call', cl_call, clOf_hi2, clOf_lower2, R.bind_ok, R.bind_exc, R.then_ok, R.then_exc, R.nx_ok, RS.seq_next, RS.seq_ret, RS.seq_exc, ofO_some, asg_name, asg_tup2, wipe_nil, wipe_cons, truth_bl, cont_ref, cont_tup, cont_lst, cont_scr, cont_int, cont_bl, cont_non, cont_str, cont_dct, bin_int, in_add, in_sub, cmp_lt, cmp_le, cmp_gt, cmp_ge, cmp_isnBl, cmp_eqI, cmp_neI, cmp_eqB, cmp_neB, at_0, at_1, at_2, fin_ret, fin_next, fin_keep, fin_exc, clean_int, clean_bl, clean_non, seq_tup, seq_lst, List.getElem?_cons_zero, List.getElem?_cons_succ, List.set_cons_zero, List.set_cons_succ, Option.map_some, List.map_cons, List.map_nil, if_true, if_false, Bool.false_eq_true, Bool.not_true, Bool.not_false, Bool.and_true, Bool.true_and, Bool.false_and, decide_true, decide_false, List.replicate, List.append, List.nil_append, List.cons_append, q, q2]
end EW
namespace K77
open PySem PySem.Spec PyProof.Rows L2 MP
def topS (i : Nat) : Stmt := PySem.Challenge.pw_loadwide_k77_whole_sums_on_hands.main.body.getD i (.Pass ⟨0, 0, 0, 0⟩)
abbrev s0 : Stmt := topS 11
def d0 : DefI := { x := "is_amount_within", st := s0, N := ["value", "low", "high"], ps := ["value", "low", "high"] }
abbrev s1 : Stmt := topS 12
def d1 : DefI := { x := "is_whole_order", st := s1, N := ["many", "value", "at"], ps := ["many", "value"] }
abbrev s2 : Stmt := topS 13
def d2 : DefI := { x := "ends_sum", st := s2, N := ["tasks", "order", "at", "found", "end"], ps := ["tasks", "order"] }
abbrev s3 : Stmt := topS 14
def d3 : DefI := { x := "smith_sum", st := s3, N := ["tasks", "found", "at", "task", "other"], ps := ["tasks"] }
abbrev s4 : Stmt := topS 15
def d4 : DefI := { x := "longest_first", st := s4, N := ["lengths", "at"], ps := ["lengths"], lam := true }
abbrev s5 : Stmt := topS 16
def d5 : DefI := { x := "hands_sum", st := s5, N := ["lengths", "hands", "place", "at"], ps := ["lengths", "hands"] }
abbrev s6 : Stmt := topS 17
def d6 : DefI := { x := "rows_told", st := s6, N := ["lengths", "hands", "found", "place", "at", "hand", "row"], ps := ["lengths", "hands"], mu := [(44, 12), (44, 13)] }
abbrev s7 : Stmt := topS 18
def d7 : DefI := { x := "are_rows_of", st := s7, N := ["lengths", "hands", "value", "every", "row", "at"], ps := ["lengths", "hands", "value"] }
abbrev s8 : Stmt := topS 19
def d8 : DefI := { x := "rows_sum", st := s8, N := ["lengths", "rows", "row", "length"], ps := ["lengths", "rows"] }
abbrev s9 : Stmt := topS 20
def d9 : DefI := { x := "are_amount_pairs", st := s9, N := ["value", "most", "low", "high", "pair"], ps := ["value", "most", "low", "high"] }
abbrev s10 : Stmt := topS 21
def d10 : DefI := { x := "require_weighed", st := s10, N := ["tasks"], ps := ["tasks"] }
abbrev s11 : Stmt := topS 22
def d11 : DefI := { x := "require_lengths", st := s11, N := ["lengths", "hands", "length"], ps := ["lengths", "hands"] }
abbrev s12 : Stmt := topS 23
def d12 : DefI := { x := "least_sum", st := s12, N := ["tasks"], ps := ["tasks"] }
abbrev s13 : Stmt := topS 24
def d13 : DefI := { x := "is_rows", st := s13, N := ["lengths", "hands", "value"], ps := ["lengths", "hands", "value"] }
abbrev s14 : Stmt := topS 25
def d14 : DefI := { x := "sum_of_rows", st := s14, N := ["lengths", "hands", "rows"], ps := ["lengths", "hands", "rows"] }
abbrev s15 : Stmt := topS 26
def d15 : DefI := { x := "least_rows", st := s15, N := ["lengths", "hands"], ps := ["lengths", "hands"] }
abbrev s16 : Stmt := topS 27
def d16 : DefI := { x := "least_hands_sum", st := s16, N := ["lengths", "hands"], ps := ["lengths", "hands"] }
abbrev s17 : Stmt := topS 29
def d17 : DefI := { x := "_law_ewer", st := s17, N := ["script", "spot", "cell", "great", "mixed"], ps := ["script", "spot"], kp := true, mu := [(96, 11)] }
abbrev s18 : Stmt := topS 30
def d18 : DefI := { x := "_law_drip", st := s18, N := ["ewer", "total", "one", "two", "found"], ps := ["ewer", "total"] }
abbrev s19 : Stmt := topS 31
def d19 : DefI := { x := "_law_sip", st := s19, N := ["ewer", "items"], ps := ["ewer", "items"] }
abbrev s20 : Stmt := topS 32
def d20 : DefI := { x := "_law_is_integer", st := s20, N := ["value"], ps := ["value"] }
abbrev s21 : Stmt := topS 33
def d21 : DefI := { x := "_law_met", st := s21, N := ["call", "error"], ps := ["call"] }
abbrev s22 : Stmt := topS 34
def d22 : DefI := { x := "_law_is_order", st := s22, N := ["many", "value", "one"], ps := ["many", "value"] }
abbrev s23 : Stmt := topS 35
def d23 : DefI := { x := "_law_is_rows", st := s23, N := ["many", "hands", "value", "every", "row"], ps := ["many", "hands", "value"], mu := [(130, 12)] }
abbrev s24 : Stmt := topS 36
def d24 : DefI := { x := "_law_rows_sum", st := s24, N := ["lengths", "rows", "found", "row", "end", "task"], ps := ["lengths", "rows"] }
abbrev s25 : Stmt := topS 37
def d25 : DefI := { x := "_law_least", st := s25, N := ["lengths", "hands", "stands", "task", "sums", "stand", "later", "rows", "hand", "own", "at"], ps := ["lengths", "hands"], mu := [(145, 16), (149, 11), (151, 15)], lam := true }
abbrev s26 : Stmt := topS 38
def d26 : DefI := { x := "_law_right", st := s26, N := ["ewer", "most", "lengths", "some", "turn", "value", "many", "hands", "due", "rows", "hand", "row", "odd", "spots", "does", "told", "task", "length", "at"], ps := ["ewer"], mu := [(172, 11)], lam := true }
abbrev s27 : Stmt := topS 39
def d27 : DefI := { x := "law", st := s27, N := ["script", "spot", "told", "ewer", "turn"], ps := ["script"] }
def m0 : MetI := { a := "call", tag := "told", hs := [⟨[("InvalidJobs", true), ("InvalidOperation", false)], ["raised", "jobs"]⟩, ⟨[("InvalidJobs", false), ("InvalidOperation", true)], ["raised", "operation"]⟩] }
def txt : Txt := { ds := [d0, d1, d2, d3, d4, d5, d6, d7, d8, d9, d10, d11, d12, d13, d14, d15, d16, d17, d18, d19, d20, d21, d22, d23, d24, d25, d26, d27], cons := [("MOST_WEIGHED", .int 9), ("MOST_SPAN", .int 99), ("MOST_WEIGHT", .int 99), ("MOST_SUM_HANDS", .int 4)], blts := ["len", "abs", "int", "max", "min", "sum", "all", "isinstance", "repr", "tuple", "list", "sorted", "range", "enumerate", "bool"], exs := ["InvalidJobs", "InvalidOperation"], mets := [("_law_met", m0)] }
end K77
namespace K77
open MP
def b0 : Ss := .cons (.ret (.andE (.blt .isinst (.cons (.var 0) (.cons (.lit (.ty "int")) .nil))) (.andE (.notE (.blt .isinst (.cons (.var 0) (.cons (.lit (.ty "bool")) .nil)))) (.chain .le .le (.var 1) (.var 0) (.var 2))))) .nil
def b1 : Ss := .cons (.ite (.orE (.notE (.tru (.blt .isinst (.cons (.var 1) (.cons (.lit (.ty "tuple")) .nil))))) (.notE (.tru (.blt .all (.cons (.new true (.comp [2] (.call 0 (.cons (.var 2) (.cons (.lit (.int 0)) (.cons (.bin .sub (.var 0) (.lit (.int 1))) .nil)))) (.name 2) (.seq (.var 1)) .nil)) .nil))))) (.cons (.ret (.lit (.bl false))) .nil) .nil) (.cons (.ret (.cmp .eq (.new true (.sorted (.var 1))) (.new true (.listRg (.lit (.int 0)) (.var 0))))) .nil)
def b2_0 : Ss := .cons (.aug 4 .add (.idx (.idx (.var 0) (.var 2)) (.lit (.int 0)))) (.cons (.aug 3 .add (.bin .mul (.var 4) (.idx (.idx (.var 0) (.var 2)) (.lit (.int 1))))) .nil)
def b2 : Ss := .cons (.asg (.tup [3, 4]) (.tup (.cons (.lit (.int 0)) (.cons (.lit (.int 0)) .nil)))) (.cons (.«for» (.name 2) (.seq (.var 1)) b2_0) (.cons (.ret (.var 3)) .nil))
def b3_0 : Ss := .cons (.aug 1 .add (.bin .mul (.idx (.var 3) (.lit (.int 0))) (.idx (.var 3) (.lit (.int 1))))) (.cons (.aug 1 .add (.blt .sum (.cons (.new true (.comp [4] (.blt .min (.cons (.bin .mul (.idx (.var 3) (.lit (.int 1))) (.idx (.var 4) (.lit (.int 0)))) (.cons (.bin .mul (.idx (.var 4) (.lit (.int 1))) (.idx (.var 3) (.lit (.int 0)))) .nil))) (.name 4) (.seq (.slc (.var 0) (.cons (.bin .add (.var 2) (.lit (.int 1))) .nil) .nil)) .nil)) .nil))) .nil)
def b3 : Ss := .cons (.asg (.name 1) (.lit (.int 0))) (.cons (.«for» (.tup [2, 3]) (.enum (.var 0)) b3_0) (.cons (.ret (.var 1)) .nil))
def b4 : Ss := .cons (.ret (.new true (.sortK (.range (.lit (.int 0)) (.blt .len (.cons (.var 0) .nil))) 1 (.tup (.cons (.neg (.idx (.var 0) (.var 1))) (.cons (.var 1) .nil)))))) .nil
def b5 : Ss := .cons (.ret (.blt .sum (.cons (.new true (.comp [2, 3] (.bin .mul (.idx (.var 0) (.var 3)) (.bin .add (.bin .fdiv (.var 2) (.var 1)) (.lit (.int 1)))) (.tup [2, 3]) (.enum (.call 4 (.cons (.var 0) .nil))) .nil)) .nil))) .nil
def b6_0 : Ss := .cons (.ex (.mth .insert (.idx (.var 2) (.bin .mod (.var 3) (.var 1))) (.cons (.lit (.int 0)) (.cons (.var 4) .nil)))) .nil
def b6 : Ss := .cons (.asg (.name 2) (.new false (.comp [5] (.new false (.disp .nil)) (.name 5) (.range (.lit (.int 0)) (.var 1)) .nil))) (.cons (.«for» (.tup [3, 4]) (.enum (.call 4 (.cons (.var 0) .nil))) b6_0) (.cons (.ret (.blt .tuple (.cons (.new true (.comp [6] (.blt .tuple (.cons (.var 6) .nil)) (.name 6) (.seq (.var 2)) .nil)) .nil))) .nil))
def b7 : Ss := .cons (.ite (.orE (.notE (.tru (.blt .isinst (.cons (.var 2) (.cons (.lit (.ty "tuple")) .nil))))) (.orE (.cmp .ne (.blt .len (.cons (.var 2) .nil)) (.var 1)) (.notE (.tru (.blt .all (.cons (.new true (.comp [4] (.blt .isinst (.cons (.var 4) (.cons (.lit (.ty "tuple")) .nil))) (.name 4) (.seq (.var 2)) .nil)) .nil)))))) (.cons (.ret (.lit (.bl false))) .nil) .nil) (.cons (.asg (.name 3) (.new true (.comp2 [4, 5] [5] (.var 5) (.name 4) (.seq (.var 2)) .nil (.name 5) (.seq (.var 4)) .nil))) (.cons (.ret (.call 1 (.cons (.blt .len (.cons (.var 0) .nil)) (.cons (.blt .tuple (.cons (.var 3) .nil)) .nil)))) .nil))
def b8 : Ss := .cons (.ret (.blt .sum (.cons (.new true (.comp [2] (.call 2 (.cons (.new true (.comp [3] (.tup (.cons (.var 3) (.cons (.lit (.int 1)) .nil))) (.name 3) (.seq (.var 0)) .nil)) (.cons (.var 2) .nil))) (.name 2) (.seq (.var 1)) .nil)) .nil))) .nil
def b9_0 : Ss := .cons (.ite (.orE (.notE (.tru (.blt .isinst (.cons (.var 4) (.cons (.lit (.ty "tuple")) .nil))))) (.cmp .ne (.blt .len (.cons (.var 4) .nil)) (.lit (.int 2)))) (.cons (.ret (.lit (.bl false))) .nil) .nil) (.cons (.ite (.orE (.notE (.tru (.call 0 (.cons (.idx (.var 4) (.lit (.int 0))) (.cons (.lit (.int 1)) (.cons (.lit (.int 99)) .nil)))))) (.notE (.tru (.call 0 (.cons (.idx (.var 4) (.lit (.int 1))) (.cons (.var 2) (.cons (.var 3) .nil))))))) (.cons (.ret (.lit (.bl false))) .nil) .nil) .nil)
def b9 : Ss := .cons (.ite (.orE (.notE (.tru (.blt .isinst (.cons (.var 0) (.cons (.lit (.ty "tuple")) .nil))))) (.notE (.chain .le .le (.lit (.int 1)) (.blt .len (.cons (.var 0) .nil)) (.var 1)))) (.cons (.ret (.lit (.bl false))) .nil) .nil) (.cons (.«for» (.name 4) (.seq (.var 0)) b9_0) (.cons (.ret (.lit (.bl true))) .nil))
def b10 : Ss := .cons (.ite (.notE (.tru (.call 9 (.cons (.var 0) (.cons (.lit (.int 9)) (.cons (.lit (.int 0)) (.cons (.lit (.int 99)) .nil))))))) (.cons (.raise "InvalidJobs" .nil) .nil) .nil) .nil
def b11 : Ss := .cons (.ite (.orE (.notE (.tru (.blt .isinst (.cons (.var 0) (.cons (.lit (.ty "tuple")) .nil))))) (.notE (.chain .le .le (.lit (.int 1)) (.blt .len (.cons (.var 0) .nil)) (.lit (.int 9))))) (.cons (.raise "InvalidJobs" .nil) .nil) .nil) (.cons (.ite (.notE (.tru (.blt .all (.cons (.new true (.comp [2] (.call 0 (.cons (.var 2) (.cons (.lit (.int 1)) (.cons (.lit (.int 99)) .nil)))) (.name 2) (.seq (.var 0)) .nil)) .nil)))) (.cons (.raise "InvalidJobs" .nil) .nil) .nil) (.cons (.ite (.notE (.tru (.call 0 (.cons (.var 1) (.cons (.lit (.int 1)) (.cons (.lit (.int 4)) .nil)))))) (.cons .bad .nil) .nil) .nil))
def b12 : Ss := .cons (.ex (.call 10 (.cons (.var 0) .nil))) (.cons (.ret (.call 3 (.cons (.var 0) .nil))) .nil)
def b13 : Ss := .cons (.ex (.call 11 (.cons (.var 0) (.cons (.var 1) .nil)))) (.cons (.ret (.call 7 (.cons (.var 0) (.cons (.var 1) (.cons (.var 2) .nil))))) .nil)
def b14 : Ss := .cons (.ex (.call 11 (.cons (.var 0) (.cons (.var 1) .nil)))) (.cons (.ite (.notE (.tru (.call 7 (.cons (.var 0) (.cons (.var 1) (.cons (.var 2) .nil)))))) (.cons (.raise "InvalidOperation" .nil) .nil) .nil) (.cons (.ret (.call 8 (.cons (.var 0) (.cons (.var 2) .nil)))) .nil))
def b15 : Ss := .cons (.ex (.call 11 (.cons (.var 0) (.cons (.var 1) .nil)))) (.cons (.ret (.call 6 (.cons (.var 0) (.cons (.var 1) .nil)))) .nil)
def b16 : Ss := .cons (.ex (.call 11 (.cons (.var 0) (.cons (.var 1) .nil)))) (.cons (.ret (.call 5 (.cons (.var 0) (.cons (.var 1) .nil)))) .nil)
def b17 : Ss := .cons (.asg (.name 2) (.ite (.cmp .lt (.var 1) (.blt .len (.cons (.var 0) .nil))) (.blt .int (.cons (.idx (.var 0) (.var 1)) .nil)) (.bin .add (.bin .mul (.lit (.int 827)) (.var 1)) (.lit (.int 61))))) (.cons (.asg (.name 3) (.bin .mod (.blt .int (.cons (.blt .abs (.cons (.var 2) .nil)) .nil)) (.bin .pow (.bin .pow (.lit (.int 10)) (.lit (.int 47))) (.lit (.int 7))))) (.cons (.asg (.name 4) (.bin .add (.bin .add (.bin .add (.bin .mul (.bin .mod (.blt .int (.cons (.var 3) .nil)) (.lit (.int 2305843009213693907))) (.lit (.int 113))) (.bin .mul (.lit (.int 1123)) (.var 1))) (.bin .mul (.lit (.int 53)) (.blt .int (.cons (.cmp .lt (.var 2) (.lit (.int 0))) .nil)))) (.lit (.int 29)))) (.cons (.ret (.new false (.disp (.cons (.blt .max (.cons (.lit (.int 0)) (.cons (.bin .sub (.var 3) (.bin .pow (.lit (.int 10)) (.lit (.int 16)))) .nil))) (.cons (.var 4) (.cons (.lit (.int 0)) .nil)))))) .nil)))
def b18 : Ss := .cons (.ite (.cmp .gt (.idx (.var 0) (.lit (.int 0))) (.lit (.int 0))) (.cons (.asg (.name 4) (.bin .mod (.blt .int (.cons (.idx (.var 0) (.lit (.int 0))) .nil)) (.var 1))) (.cons (.setI (.var 0) (.lit (.int 0)) (.bin .fdiv (.idx (.var 0) (.lit (.int 0))) (.var 1))) (.cons (.ret (.var 4)) .nil))) .nil) (.cons (.setI (.var 0) (.lit (.int 2)) (.bin .add (.idx (.var 0) (.lit (.int 2))) (.lit (.int 1)))) (.cons (.asg (.name 2) (.bin .mod (.blt .int (.cons (.bin .add (.idx (.var 0) (.lit (.int 1))) (.bin .mul (.lit (.int 32452843)) (.idx (.var 0) (.lit (.int 2))))) .nil)) (.lit (.int 2305843009213693951)))) (.cons (.asg (.name 3) (.bin .add (.bin .mul (.bin .mod (.blt .int (.cons (.bin .add (.bin .mul (.var 2) (.var 2)) (.bin .mul (.lit (.int 317)) (.idx (.var 0) (.lit (.int 2))))) .nil)) (.lit (.int 2305843009213693921))) (.lit (.int 15485867))) (.var 2))) (.cons (.ret (.bin .mod (.blt .int (.cons (.bin .fdiv (.var 3) (.lit (.int 65647))) .nil)) (.var 1))) .nil))))
def b19 : Ss := .cons (.ret (.idx (.var 1) (.call 18 (.cons (.var 0) (.cons (.blt .len (.cons (.var 1) .nil)) .nil))))) .nil
def b20 : Ss := .cons (.ret (.andE (.blt .isinst (.cons (.var 0) (.cons (.lit (.ty "int")) .nil))) (.notE (.blt .isinst (.cons (.var 0) (.cons (.lit (.ty "bool")) .nil)))))) .nil
def b21 : Ss := .cons .bad .nil
def b22 : Ss := .cons (.ite (.orE (.notE (.tru (.blt .isinst (.cons (.var 1) (.cons (.lit (.ty "tuple")) .nil))))) (.cmp .ne (.blt .len (.cons (.var 1) .nil)) (.var 0))) (.cons (.ret (.lit (.bl false))) .nil) .nil) (.cons (.ite (.cmp .ne (.new true (.comp [2] (.lit (.int 1)) (.name 2) (.seq (.var 1)) (.cons (.notE (.tru (.call 20 (.cons (.var 2) .nil)))) .nil))) (.new true (.disp .nil))) (.cons (.ret (.lit (.bl false))) .nil) .nil) (.cons (.ret (.cmp .eq (.new true (.sorted (.var 1))) (.new true (.listRg (.lit (.int 0)) (.var 0))))) .nil))
def b23_0 : Ss := .cons (.ex (.mth .extend (.var 3) (.cons (.new true (.listOf (.var 4))) .nil))) .nil
def b23 : Ss := .cons (.ite (.orE (.notE (.tru (.blt .isinst (.cons (.var 2) (.cons (.lit (.ty "tuple")) .nil))))) (.orE (.cmp .ne (.blt .len (.cons (.var 2) .nil)) (.var 1)) (.cmp .ne (.new true (.comp [4] (.lit (.int 1)) (.name 4) (.seq (.var 2)) (.cons (.notE (.tru (.blt .isinst (.cons (.var 4) (.cons (.lit (.ty "tuple")) .nil))))) .nil))) (.new true (.disp .nil))))) (.cons (.ret (.lit (.bl false))) .nil) .nil) (.cons (.asg (.name 3) (.new false (.disp .nil))) (.cons (.«for» (.name 4) (.seq (.var 2)) b23_0) (.cons (.ret (.call 22 (.cons (.var 0) (.cons (.blt .tuple (.cons (.var 3) .nil)) .nil)))) .nil)))
def b24_0 : Ss := .cons (.asg (.name 4) (.bin .add (.var 4) (.idx (.var 0) (.var 5)))) (.cons (.asg (.name 2) (.bin .add (.var 2) (.var 4))) .nil)
def b24_1 : Ss := .cons (.asg (.name 4) (.lit (.int 0))) (.cons (.«for» (.name 5) (.seq (.var 3)) b24_0) .nil)
def b24 : Ss := .cons (.asg (.name 2) (.lit (.int 0))) (.cons (.«for» (.name 3) (.seq (.var 1)) b24_1) (.cons (.ret (.var 2)) .nil))
def b25_0 : Ss := .cons (.ex (.mth .extend (.var 6) (.cons (.new true (.comp [8] (.bin .add (.var 5) (.tup (.cons (.var 8) .nil))) (.name 8) (.range (.lit (.int 0)) (.var 1)) .nil)) .nil))) .nil
def b25_1 : Ss := .cons (.asg (.name 6) (.new false (.disp .nil))) (.cons (.«for» (.name 5) (.seq (.var 2)) b25_0) (.cons (.asg (.name 2) (.new true (.listOf (.var 6)))) .nil))
def b25_2 : Ss := .cons (.asg (.name 9) (.new true (.comp [10] (.var 10) (.name 10) (.range (.lit (.int 0)) (.blt .len (.cons (.var 0) .nil))) (.cons (.cmp .eq (.idx (.var 5) (.var 10)) (.var 8)) .nil)))) (.cons (.ex (.mth .append (.var 7) (.cons (.new true (.sortK (.seq (.var 9)) 10 (.idx (.var 0) (.var 10)))) .nil))) .nil)
def b25_3 : Ss := .cons (.asg (.name 7) (.new false (.disp .nil))) (.cons (.«for» (.name 8) (.range (.lit (.int 0)) (.var 1)) b25_2) (.cons (.ex (.mth .append (.var 4) (.cons (.call 24 (.cons (.var 0) (.cons (.var 7) .nil))) .nil))) .nil))
def b25 : Ss := .cons (.asg (.name 2) (.new true (.disp (.cons (.tup .nil) .nil)))) (.cons (.«for» (.name 3) (.seq (.var 0)) b25_1) (.cons (.asg (.name 4) (.new false (.disp .nil))) (.cons (.«for» (.name 5) (.seq (.var 2)) b25_3) (.cons (.ret (.blt .min (.cons (.var 4) .nil))) .nil))))
def b26_0 : Ss := .cons (.ex (.mth .append (.var 3) (.cons (.bin .add (.bin .add (.slc (.var 9) .nil (.cons (.var 10) .nil)) (.tup (.cons (.var 12) .nil))) (.slc (.var 9) (.cons (.bin .add (.var 10) (.lit (.int 1))) .nil) .nil)) .nil))) .nil
def b26_1 : Ss := .cons (.asg (.name 10) (.call 18 (.cons (.var 0) (.cons (.var 7) .nil)))) (.cons (.asg (.name 11) (.idx (.var 9) (.var 10))) (.cons (.«for» (.name 12) (.seq (.tup (.cons (.rev (.var 11)) (.cons (.new true (.listOf (.var 11))) (.cons (.slc (.var 11) (.cons (.lit (.int 1)) .nil) .nil) (.cons (.bin .add (.var 11) (.tup (.cons (.lit (.int 0)) .nil))) (.cons (.bin .add (.var 11) (.tup (.cons (.lit (.bl true)) .nil))) (.cons (.bin .add (.var 11) (.tup (.cons (.var 6) .nil))) (.cons (.bin .add (.var 11) (.tup (.cons (.lit .non) .nil))) (.cons (.lit .non) .nil)))))))))) b26_0) .nil))
def b26_2 : Ss := .cons (.asg (.name 13) (.new true (.comp [16] (.call 18 (.cons (.var 0) (.cons (.var 7) .nil))) (.name 16) (.seq (.var 2)) .nil))) (.cons (.ex (.mth .append (.var 3) (.cons (.blt .tuple (.cons (.new true (.comp [10] (.blt .tuple (.cons (.new true (.comp [18] (.var 18) (.name 18) (.range (.lit (.int 0)) (.var 6)) (.cons (.cmp .eq (.idx (.var 13) (.var 18)) (.var 10)) .nil))) .nil)) (.name 10) (.range (.lit (.int 0)) (.var 7)) .nil)) .nil)) .nil))) .nil)
def b26_3 : Ss := .cons (.asg (.name 14) (.call 23 (.cons (.var 6) (.cons (.var 7) (.cons (.var 5) .nil))))) (.cons (.ite (.cmp .ne (.blt .repr (.cons (.call 13 (.cons (.var 2) (.cons (.var 7) (.cons (.var 5) .nil)))) .nil)) (.blt .repr (.cons (.var 14) .nil))) (.cons (.ret (.lit (.bl false))) .nil) .nil) (.cons (.asg (.name 15) (.ite (.tru (.var 14)) (.tup (.cons (.lit (.str "told")) (.cons (.call 24 (.cons (.var 2) (.cons (.var 5) .nil))) .nil))) (.tup (.cons (.lit (.str "raised")) (.cons (.lit (.str "operation")) .nil))))) (.cons (.ite (.cmp .ne (.met "told" [⟨ [("InvalidJobs" , true), ("InvalidOperation" , false)], ["raised", "jobs"] ⟩, ⟨ [("InvalidJobs" , false), ("InvalidOperation" , true)], ["raised", "operation"] ⟩] (.call 14 (.cons (.var 2) (.cons (.var 7) (.cons (.var 5) .nil))))) (.var 15)) (.cons (.ret (.lit (.bl false))) .nil) .nil) .nil)))
def b26 : Ss := .cons (.asg (.tup [6, 7]) (.tup (.cons (.bin .add (.lit (.int 1)) (.call 18 (.cons (.var 0) (.cons (.lit (.int 5)) .nil)))) (.cons (.bin .add (.lit (.int 1)) (.call 18 (.cons (.var 0) (.cons (.lit (.int 3)) .nil)))) .nil)))) (.cons (.asg (.name 1) (.call 19 (.cons (.var 0) (.cons (.new true (.disp (.cons (.lit (.int 3)) (.cons (.lit (.int 20)) (.cons (.lit (.int 99)) .nil))))) .nil)))) (.cons (.asg (.name 2) (.blt .tuple (.cons (.new true (.comp [4] (.bin .add (.lit (.int 1)) (.call 18 (.cons (.var 0) (.cons (.var 1) .nil)))) (.name 4) (.range (.lit (.int 0)) (.var 6)) .nil)) .nil))) (.cons (.asg (.tup [8, 9]) (.tup (.cons (.call 25 (.cons (.var 2) (.cons (.var 7) .nil))) (.cons (.call 15 (.cons (.var 2) (.cons (.var 7) .nil))) .nil)))) (.cons (.ite (.orE (.cmp .ne (.call 16 (.cons (.var 2) (.cons (.var 7) .nil))) (.var 8)) (.notE (.tru (.call 23 (.cons (.var 6) (.cons (.var 7) (.cons (.var 9) .nil))))))) (.cons (.ret (.lit (.bl false))) .nil) .nil) (.cons (.ite (.cmp .ne (.call 24 (.cons (.var 2) (.cons (.var 9) .nil))) (.var 8)) (.cons (.ret (.lit (.bl false))) .nil) .nil) (.cons (.ite (.orE (.cmp .isn (.call 13 (.cons (.var 2) (.cons (.var 7) (.cons (.var 9) .nil)))) (.lit (.bl true))) (.cmp .ne (.call 14 (.cons (.var 2) (.cons (.var 7) (.cons (.var 9) .nil)))) (.var 8))) (.cons (.ret (.lit (.bl false))) .nil) .nil) (.cons (.ite (.andE (.cmp .eq (.var 7) (.lit (.int 1))) (.cmp .ne (.call 12 (.cons (.blt .tuple (.cons (.new true (.comp [17] (.tup (.cons (.var 17) (.cons (.lit (.int 1)) .nil))) (.name 17) (.seq (.var 2)) .nil)) .nil)) .nil)) (.var 8))) (.cons (.ret (.lit (.bl false))) .nil) .nil) (.cons (.ite (.andE (.cmp .gt (.var 7) (.lit (.int 1))) (.cmp .lt (.call 16 (.cons (.var 2) (.cons (.bin .sub (.var 7) (.lit (.int 1))) .nil))) (.var 8))) (.cons (.ret (.lit (.bl false))) .nil) .nil) (.cons (.asg (.name 3) (.new false (.disp (.cons (.var 9) (.cons (.new true (.listOf (.var 9))) (.cons (.slc (.var 9) (.cons (.lit (.int 1)) .nil) .nil) (.cons (.bin .add (.var 9) (.tup (.cons (.tup .nil) .nil))) (.cons (.rev (.var 9)) (.cons (.tup .nil) (.cons (.lit .non) (.cons (.lit (.int 0)) (.cons (.new true .dict0) (.cons (.bin .mul (.tup (.cons (.idx (.var 9) (.lit (.int 0))) .nil)) (.var 7)) (.cons (.bin .mul (.tup (.cons (.tup .nil) .nil)) (.var 7)) .nil)))))))))))))) (.cons (.«for» (.name 4) (.range (.lit (.int 0)) (.lit (.int 8))) b26_1) (.cons (.«for» (.name 4) (.range (.lit (.int 0)) (.lit (.int 6))) b26_2) (.cons (.«for» (.name 5) (.seq (.var 3)) b26_3) (.cons (.ret (.lit (.bl true))) .nil)))))))))))))
def b27_0 : Ss := .cons (.ite (.notE (.tru (.call 26 (.cons (.var 3) .nil)))) (.cons (.ret (.lit (.bl false))) .nil) .nil) .nil
def b27_1 : Ss := .cons (.asg (.name 3) (.call 17 (.cons (.var 0) (.cons (.var 1) .nil)))) (.cons (.«for» (.name 4) (.range (.lit (.int 0)) (.lit (.int 4))) b27_0) .nil)
def b27 : Ss := .cons (.«for» (.name 1) (.range (.lit (.int 0)) (.blt .max (.cons (.lit (.int 1)) (.cons (.blt .min (.cons (.lit (.int 3)) (.cons (.blt .len (.cons (.var 0) .nil)) .nil))) .nil)))) b27_1) (.cons (.asg (.name 2) (.new true (.disp (.cons (.call 16 (.cons (.tup (.cons (.lit (.int 3)) (.cons (.lit (.int 1)) (.cons (.lit (.int 2)) .nil)))) (.cons (.lit (.int 2)) .nil))) (.cons (.call 14 (.cons (.tup (.cons (.lit (.int 3)) (.cons (.lit (.int 1)) (.cons (.lit (.int 2)) .nil)))) (.cons (.lit (.int 2)) (.cons (.tup (.cons (.tup (.cons (.lit (.int 1)) (.cons (.lit (.int 0)) .nil))) (.cons (.tup (.cons (.lit (.int 2)) .nil)) .nil))) .nil)))) (.cons (.call 16 (.cons (.tup (.cons (.lit (.int 5)) .nil)) (.cons (.lit (.int 4)) .nil))) .nil)))))) (.cons (.ret (.andE (.cmp .eq (.var 2) (.new true (.disp (.cons (.lit (.int 7)) (.cons (.lit (.int 7)) (.cons (.lit (.int 5)) .nil)))))) (.andE (.cmp .isx (.call 13 (.cons (.tup (.cons (.lit (.int 3)) (.cons (.lit (.int 1)) (.cons (.lit (.int 2)) .nil)))) (.cons (.lit (.int 2)) (.cons (.tup (.cons (.tup (.cons (.lit (.int 1)) .nil)) (.cons (.tup (.cons (.lit (.int 2)) .nil)) .nil))) .nil)))) (.lit (.bl false))) (.cmp .eq (.call 16 (.cons (.bin .mul (.tup (.cons (.lit (.int 99)) .nil)) (.lit (.int 9))) (.cons (.lit (.int 4)) .nil))) (.lit (.int 1485)))))) .nil))
abbrev tab : List FD := [⟨false, 3, 3, b0⟩, ⟨false, 2, 3, b1⟩, ⟨false, 2, 5, b2⟩, ⟨false, 1, 5, b3⟩, ⟨false, 1, 2, b4⟩, ⟨false, 2, 4, b5⟩, ⟨false, 2, 7, b6⟩, ⟨false, 3, 6, b7⟩, ⟨false, 2, 4, b8⟩, ⟨false, 4, 5, b9⟩, ⟨false, 1, 1, b10⟩, ⟨false, 2, 3, b11⟩, ⟨false, 1, 1, b12⟩, ⟨false, 3, 3, b13⟩, ⟨false, 3, 3, b14⟩, ⟨false, 2, 2, b15⟩, ⟨false, 2, 2, b16⟩, ⟨true, 2, 5, b17⟩, ⟨false, 2, 5, b18⟩, ⟨false, 2, 2, b19⟩, ⟨false, 1, 1, b20⟩, ⟨false, 1, 2, b21⟩, ⟨false, 2, 3, b22⟩, ⟨false, 3, 5, b23⟩, ⟨false, 2, 6, b24⟩, ⟨false, 2, 11, b25⟩, ⟨false, 1, 19, b26⟩, ⟨false, 1, 5, b27⟩]
set_option maxHeartbeats 0 in
theorem tab_is : tabOf txt = tab := by kernel_rfl
/-- a table like the text's: nothing below may look into it -/
class Tb (T : List FD) : Prop where
  at_ : ∀ i : Nat, T[i]? = tab[i]?
theorem T_at {T : List FD} [h : Tb T] (i : Nat) : T[i]? = tab[i]? := h.at_ i
theorem tb_txt : Tb (tabOf txt) := ⟨fun i => by rw [tab_is]⟩
end K77
/-! k77's plain law: sums on hands. -/
namespace Z77
/-- the sum of all ends of a row -/
def cost : List Int → Int
  | [] => 0
  | x :: r => x * ((r.length : Int) + 1) + cost r
/-- the same of a row that is told from its end -/
def costD : List Int → Int → Int
  | [], _ => 0
  | x :: r, j => x * j + costD r (j + 1)
theorem costD_next : ∀ (r : List Int) (j : Int), costD r (j + 1) = costD r j + r.sum
  | [], _ => rfl
  | x :: r, j => by
    simp only [costD, List.sum_cons]
    rw [costD_next r (j + 1), Int.mul_add, Int.mul_one]
    omega
theorem cost_snoc : ∀ (r : List Int) (x : Int), cost (r ++ [x]) = cost r + r.sum + x
  | [], x => by simp [cost]
  | y :: r, x => by
    rw [List.cons_append]
    simp only [cost, List.sum_cons]
    rw [cost_snoc r x, List.length_append]
    have e : (((r.length + [x].length : Nat) : Int) + 1) = ((r.length : Int) + 1) + 1 := by simp
    rw [e, Int.mul_add y (↑r.length + 1) 1, Int.mul_one]
    omega
theorem cost_rev : ∀ d : List Int, cost d.reverse = costD d 1
  | [] => rfl
  | x :: d => by
    rw [List.reverse_cons, cost_snoc, cost_rev d, List.sum_reverse]
    simp only [costD]
    rw [costD_next d 1, Int.mul_one]
    omega
/-- the least sum: the longest one first, by hands -/
def hs (h : Nat) : Nat → List Int → Int
  | _, [] => 0
  | p, x :: r => x * (((p / h : Nat) : Int) + 1) + hs h (p + 1) r
/-! ### any parting -/
/-- what each one is counted, by the hands -/
def ms : List Nat → List Nat → List Nat
  | _, [] => []
  | pre, s :: r => (1 + pre.count s) :: ms (pre ++ [s]) r
def dot : List Int → List Nat → Int
  | x :: r, m :: n => x * (m : Int) + dot r n
  | _, _ => 0
def sumH (h : Nat) (g : Nat → Int) : Int := ((List.range h).map g).sum
theorem sumH_congr {h : Nat} {f g : Nat → Int} (e : ∀ k < h, f k = g k) : sumH h f = sumH h g := by
  unfold sumH
  rw [List.map_congr_left fun k hk => e k (List.mem_range.mp hk)]
theorem sumH_one : ∀ {h : Nat} {s : Nat} (c : Int) (g : Nat → Int), s < h → sumH h (fun k => if k = s then c + g k else g k) = c + sumH h g
  | 0, _, _, _, hs => absurd hs (Nat.not_lt_zero _)
  | h + 1, s, c, g, hs => by
    unfold sumH
    rw [List.range_succ, List.map_append, List.map_append, List.sum_append, List.sum_append]
    by_cases e : s = h
    · subst e
      have : ((List.range s).map fun k => if k = s then c + g k else g k) = (List.range s).map g := List.map_congr_left fun k hk => if_neg (Nat.ne_of_lt (List.mem_range.mp hk))
      rw [this]
      simp
      omega
    · have ih := sumH_one (h := h) (s := s) c g (by omega)
      unfold sumH at ih
      rw [ih]
      simp [show ¬ h = s from fun z => e z.symm]
      omega
/-- the hands' sums, each told from its end -/
theorem hands_dot {h : Nat} : ∀ (zs : List (Int × Nat)) (pre : List Nat), (∀ z ∈ zs, z.2 < h) →
    sumH h (fun k => costD ((zs.filter fun z => z.2 = k).map Prod.fst) (1 + (pre.count k : Nat))) = dot (zs.map Prod.fst) (ms pre (zs.map Prod.snd))
  | [], pre, _ => by
    show sumH h (fun _ => (0 : Int)) = 0
    unfold sumH
    have : ∀ l : List Nat, (l.map fun _ => (0 : Int)).sum = 0 := fun l => by
      induction l with
      | nil => rfl
      | cons a l ih => rw [List.map_cons, List.sum_cons, ih]; rfl
    exact this _
  | (x, s) :: zs, pre, hz => by
    have hs : s < h := hz _ List.mem_cons_self
    have ih := hands_dot zs (pre ++ [s]) fun z hz' => hz z (List.mem_cons_of_mem _ hz')
    simp only [List.map_cons, ms, dot]
    rw [← ih, ← sumH_one _ _ hs]
    refine sumH_congr fun k _ => ?_
    by_cases e : k = s
    · subst e
      simp only [List.filter_cons, if_true, decide_true, List.map_cons, costD, List.count_append, List.count_singleton_self]
      have : (1 : Int) + ((pre.count k : Nat) : Int) + 1 = 1 + ((pre.count k + 1 : Nat) : Int) := by omega
      rw [this]
      simp
    · have e' : ¬ s = k := fun z => e z.symm
      simp [List.filter_cons, e, e', List.count_append, List.count_singleton, Ne.symm e]
/-! ### a lower bound -/
def psum (l : List Nat) (k : Nat) : Nat := (l.take k).sum
theorem abel : ∀ (d : List Int) (m b : List Nat) (c : Int) (top : Int), m.length = d.length → b.length = d.length → d.Pairwise (· ≥ ·) → (∀ x ∈ d, 0 ≤ x ∧ x ≤ top) → 0 ≤ top → 0 ≤ c →
    (∀ k, (psum b k : Int) ≤ c + psum m k) → dot d b ≤ c * top + dot d m
  | [], m, b, c, top, _, _, _, _, ht, hc, _ => by
    have := Int.mul_nonneg hc ht
    cases m <;> cases b <;> simp [dot] <;> omega
  | x :: d, [], _, _, _, h, _, _, _, _, _, _ => by simp at h
  | x :: d, _ :: _, [], _, _, _, h, _, _, _, _, _ => by simp at h
  | x :: d, m0 :: m, b0 :: b, c, top, hm, hb, hd, hx, ht, hc, hp => by
    rw [List.pairwise_cons] at hd
    obtain ⟨x0, x1⟩ := hx x List.mem_cons_self
    have hc' : 0 ≤ c + m0 - b0 := by
      have := hp 1
      simp [psum] at this
      omega
    have ih := abel d m b (c + m0 - b0) x (by simpa using hm) (by simpa using hb) hd.2 (fun y hy => ⟨(hx y (List.mem_cons_of_mem _ hy)).1, hd.1 y hy⟩) x0 hc' fun k => by
      have := hp (k + 1)
      simp [psum] at this ⊢
      omega
    simp only [dot]
    have e1 : (c + m0 - b0) * x = c * x + x * m0 - x * b0 := by
      rw [Int.sub_mul, Int.add_mul, Int.mul_comm (m0 : Int) x, Int.mul_comm (b0 : Int) x]
    have e2 : c * x ≤ c * top := Int.mul_le_mul_of_nonneg_left x1 hc
    omega
/-- what the least sum counts -/
def bs (h : Nat) : Nat → Nat → List Nat
  | _, 0 => []
  | p, n + 1 => (p / h + 1) :: bs h (p + 1) n
theorem bs_len (h : Nat) : ∀ (n p : Nat), (bs h p n).length = n
  | 0, _ => rfl
  | n + 1, p => by simp [bs, bs_len h n]
theorem hs_dot (h : Nat) : ∀ (d : List Int) (p : Nat), hs h p d = dot d (bs h p d.length)
  | [], _ => rfl
  | x :: d, p => by
    simp only [hs, List.length_cons, bs, dot]
    rw [hs_dot h d (p + 1)]
    have : (((p / h + 1 : Nat)) : Int) = ((p / h : Nat) : Int) + 1 := by omega
    rw [this]
theorem ms_len : ∀ (s pre : List Nat), (ms pre s).length = s.length
  | [], _ => rfl
  | x :: s, pre => by simp [ms, ms_len s]
/-- all partings -/
def stn (h : Nat) : Nat → List (List Nat)
  | 0 => [[]]
  | t + 1 => (stn h t).flatMap fun s => (List.range h).map fun k => s ++ [k]
theorem stn_mem (h : Nat) : ∀ (t : Nat) (s : List Nat), s ∈ stn h t ↔ s.length = t ∧ ∀ x ∈ s, x < h
  | 0, s => by
    simp only [stn, List.mem_singleton]
    constructor
    · rintro rfl
      simp
    · rintro ⟨h1, _⟩
      exact List.eq_nil_of_length_eq_zero h1
  | t + 1, s => by
    simp only [stn, List.mem_flatMap, List.mem_map, List.mem_range]
    constructor
    · rintro ⟨r, hr, k, hk, rfl⟩
      obtain ⟨h1, h2⟩ := (stn_mem h t r).mp hr
      refine ⟨by simp [h1], fun x hx => ?_⟩
      rcases List.mem_append.mp hx with z | z
      · exact h2 x z
      · simp at z
        omega
    · rintro ⟨h1, h2⟩
      have hne : s ≠ [] := fun e => by simp [e] at h1
      refine ⟨s.dropLast, (stn_mem h t _).mpr ⟨by rw [List.length_dropLast]; omega, fun x hx => h2 x ((List.dropLast_sublist s).subset hx)⟩, s.getLast hne, h2 _ (List.getLast_mem hne), List.dropLast_concat_getLast hne⟩
theorem stn_len (h : Nat) : ∀ t : Nat, (stn h t).length = h ^ t
  | 0 => rfl
  | t + 1 => by
    rw [stn, List.length_flatMap]
    simp only [List.length_map, List.length_range]
    rw [List.map_const', List.sum_replicate_nat, stn_len h t, Nat.pow_succ]
/-- the small cases -/
def chk (h n : Nat) : Bool := (stn h n).all fun s => (List.range (n + 1)).all fun k => decide (psum (bs h 0 n) k ≤ psum (ms [] s) k)
theorem chk_all : ([1, 2, 3].all fun h => (List.range 6).all fun n => chk h n) = true := by decide +kernel
theorem lower {h n : Nat} (hh : 1 ≤ h ∧ h ≤ 3) (hn : n ≤ 5) {d : List Int} (hd : d.length = n) (hp : d.Pairwise (· ≥ ·)) (hx : ∀ x ∈ d, 0 ≤ x ∧ x ≤ 99) {s : List Nat} (hs' : s ∈ stn h n) : hs h 0 d ≤ dot d (ms [] s) := by
  have hl := ((stn_mem h n s).mp hs').1
  rw [hs_dot]
  have hc : chk h n = true := by
    have h1 := List.all_eq_true.mp chk_all h (by simp; omega)
    exact List.all_eq_true.mp h1 n (List.mem_range.mpr (by omega))
  have hk : ∀ k, psum (bs h 0 n) k ≤ psum (ms [] s) k := fun k => by
    have h1 := List.all_eq_true.mp hc s hs'
    by_cases e : k < n + 1
    · exact of_decide_eq_true (List.all_eq_true.mp h1 k (List.mem_range.mpr e))
    · have h2 := of_decide_eq_true (List.all_eq_true.mp h1 n (List.mem_range.mpr (by omega)))
      unfold psum at h2 ⊢
      rw [List.take_of_length_le (by rw [bs_len]; omega), List.take_of_length_le (by rw [ms_len]; omega)]
      rw [List.take_of_length_le (by rw [bs_len]; omega), List.take_of_length_le (by rw [ms_len]; omega)] at h2
      exact h2
  have := abel d (ms [] s) (bs h 0 d.length) 0 99 (by rw [ms_len]; omega) (bs_len _ _ _) hp hx (by decide) (by decide) fun k => by
    have := hk k
    rw [hd]
    omega
  omega
def chk2 (h n : Nat) : Bool := decide (ms [] ((List.range n).map fun p => p % h) = bs h 0 n)
theorem chk2_all : ([1, 2, 3].all fun h => (List.range 6).all fun n => chk2 h n) = true := by decide +kernel
theorem there {h n : Nat} (hh : 1 ≤ h ∧ h ≤ 3) (hn : n ≤ 5) {d : List Int} (hd : d.length = n) : dot d (ms [] ((List.range n).map fun p => p % h)) = hs h 0 d := by
  have hc : chk2 h n = true := by
    have h1 := List.all_eq_true.mp chk2_all h (by simp; omega)
    exact List.all_eq_true.mp h1 n (List.mem_range.mpr (by omega))
  rw [hs_dot, hd, of_decide_eq_true hc]
theorem hs_more {h : Nat} (h1 : 1 ≤ h) : ∀ (d : List Int) (p : Nat), (∀ x ∈ d, 0 ≤ x) → hs (h + 1) p d ≤ hs h p d
  | [], _, _ => Int.le_refl _
  | x :: d, p, hx => by
    simp only [hs]
    have ih := hs_more h1 d (p + 1) fun y hy => hx y (List.mem_cons_of_mem _ hy)
    have e : p / (h + 1) ≤ p / h := Nat.div_le_div_left (by omega) (by omega)
    have e2 : x * (((p / (h + 1) : Nat) : Int) + 1) ≤ x * (((p / h : Nat) : Int) + 1) := Int.mul_le_mul_of_nonneg_left (by omega) (hx x List.mem_cons_self)
    omega
end Z77
/-! k77's plain law: rows. -/
namespace Z77
open Z76
def ln (ls : List Int) (i : Nat) : Int := ls.getD i 0
abbrev Okl (ls : List Int) : Prop := ∀ x ∈ ls, 1 ≤ x ∧ x ≤ 99
theorem ln_ok {ls : List Int} (h : Okl ls) {i : Nat} (hi : i < ls.length) : 1 ≤ ln ls i ∧ ln ls i ≤ 99 := by
  unfold ln
  rw [List.getD_eq_getElem?_getD, List.getElem?_eq_getElem hi]
  exact h _ (List.getElem_mem hi)
theorem ln_range (ls : List Int) : (List.range ls.length).map (ln ls) = ls := by
  apply List.ext_getElem
  · simp
  · intro i h1 h2
    simp only [List.getElem_map, List.getElem_range]
    unfold ln
    rw [List.getD_eq_getElem?_getD, List.getElem?_eq_getElem h2]
    rfl
def leF (ls : List Int) (a b : Nat) : Bool := decide (-(ln ls a) < -(ln ls b) ∨ (-(ln ls a) = -(ln ls b) ∧ (a : Int) ≤ b))
def LF (ls : List Int) : List Nat := (List.range ls.length).mergeSort (leF ls)
theorem LF_perm (ls : List Int) : (LF ls).Perm (List.range ls.length) := List.mergeSort_perm _ _
theorem LF_len (ls : List Int) : (LF ls).length = ls.length := by rw [(LF_perm ls).length_eq, List.length_range]
theorem LF_mem {ls : List Int} {i : Nat} : i ∈ LF ls ↔ i < ls.length := by rw [(LF_perm ls).mem_iff, List.mem_range]
theorem LF_nodup (ls : List Int) : (LF ls).Nodup := (LF_perm ls).nodup_iff.mpr List.nodup_range
theorem LF_desc (ls : List Int) : ((LF ls).map (ln ls)).Pairwise (· ≥ ·) := by
  rw [List.pairwise_map]
  have h := List.pairwise_mergeSort (le := leF ls) (fun a b c h1 h2 => by
    unfold leF at h1 h2 ⊢
    simp only [decide_eq_true_eq] at h1 h2 ⊢
    omega) (fun a b => by
    unfold leF
    simp only [Bool.or_eq_true, decide_eq_true_eq]
    omega) (List.range ls.length)
  refine h.imp fun {a b} hab => ?_
  unfold leF at hab
  simp only [decide_eq_true_eq] at hab
  show ln ls b ≤ ln ls a
  omega
def DD (ls : List Int) : List Int := (LF ls).map (ln ls)
theorem DD_len (ls : List Int) : (DD ls).length = ls.length := by rw [DD, List.length_map, LF_len]
theorem DD_perm (ls : List Int) : (DD ls).Perm ls := by
  have h := (LF_perm ls).map (ln ls)
  rw [ln_range] at h
  exact h
theorem DD_ok {ls : List Int} (h : Okl ls) : ∀ x ∈ DD ls, 1 ≤ x ∧ x ≤ 99 := fun x hx => h x ((DD_perm ls).mem_iff.mp hx)
def st (s : List Nat) (i : Nat) : Nat := s.getD i 0
def own (ls : List Int) (s : List Nat) (k : Nat) : List Nat := (List.range ls.length).filter fun i => st s i = k
def leO (ls : List Int) (a b : Nat) : Bool := decide (ln ls a ≤ ln ls b)
def ownS (ls : List Int) (s : List Nat) (k : Nat) : List Nat := (own ls s k).mergeSort (leO ls)
/-- the sum of a parting -/
def LS (ls : List Int) (h : Nat) (s : List Nat) : Int := sumH h fun k => cost ((ownS ls s k).map (ln ls))
theorem st_lt {h n : Nat} {s : List Nat} (hs' : s ∈ stn h n) {i : Nat} (hi : i < n) : st s i < h := by
  obtain ⟨h1, h2⟩ := (stn_mem h n s).mp hs'
  unfold st
  rw [List.getD_eq_getElem?_getD, List.getElem?_eq_getElem (by omega)]
  exact h2 _ (List.getElem_mem _)
theorem ownS_is (ls : List Int) (s : List Nat) (k : Nat) : (ownS ls s k).map (ln ls) = (((LF ls).filter fun i => st s i = k).map (ln ls)).reverse := by
  have p1 : ((ownS ls s k).map (ln ls)).Pairwise (· ≤ ·) := by
    rw [List.pairwise_map]
    have h := List.pairwise_mergeSort (le := leO ls) (fun a b c h1 h2 => by
      unfold leO at h1 h2 ⊢
      simp only [decide_eq_true_eq] at h1 h2 ⊢
      omega) (fun a b => by
      unfold leO
      simp only [Bool.or_eq_true, decide_eq_true_eq]
      omega) (own ls s k)
    exact h.imp fun {a b} hab => by
      unfold leO at hab
      simpa using hab
  have p2 : (((LF ls).filter fun i => st s i = k).map (ln ls)).reverse.Pairwise (· ≤ ·) := by
    rw [List.pairwise_reverse, List.pairwise_map]
    have h := LF_desc ls
    rw [List.pairwise_map] at h
    exact h.filter _
  refine List.Perm.eq_of_pairwise (fun a b _ _ h1 h2 => Int.le_antisymm h1 h2) p1 p2 ?_
  refine List.Perm.trans ?_ (List.reverse_perm _).symm
  refine List.Perm.map _ ((List.mergeSort_perm _ _).trans ?_)
  exact ((LF_perm ls).filter _).symm
theorem LS_is {ls : List Int} {h : Nat} {s : List Nat} (hs' : s ∈ stn h ls.length) : LS ls h s = dot (DD ls) (ms [] ((LF ls).map (st s))) := by
  have q := hands_dot (h := h) ((LF ls).map fun i => (ln ls i, st s i)) [] fun z hz => by
    obtain ⟨i, hi, rfl⟩ := List.mem_map.mp hz
    exact st_lt hs' (LF_mem.mp hi)
  rw [List.map_map, List.map_map] at q
  refine Eq.trans (sumH_congr fun k _ => ?_) q
  show cost ((ownS ls s k).map (ln ls)) = costD _ (1 + (0 : Nat))
  rw [ownS_is, cost_rev, List.filter_map, List.map_map]
  rfl
theorem LF_st {ls : List Int} {h : Nat} {s : List Nat} (hs' : s ∈ stn h ls.length) : (LF ls).map (st s) ∈ stn h ls.length := by
  rw [stn_mem]
  refine ⟨by rw [List.length_map, LF_len], fun x hx => ?_⟩
  obtain ⟨i, hi, rfl⟩ := List.mem_map.mp hx
  exact st_lt hs' (LF_mem.mp hi)
theorem LS_lower {ls : List Int} (ok : Okl ls) (hl : ls.length ≤ 5) {h : Nat} (hh : 1 ≤ h ∧ h ≤ 3) {s : List Nat} (hs' : s ∈ stn h ls.length) : hs h 0 (DD ls) ≤ LS ls h s := by
  rw [LS_is hs']
  exact lower hh hl (DD_len ls) (LF_desc ls) (fun x hx => ⟨by have := (DD_ok ok x hx).1; omega, (DD_ok ok x hx).2⟩) (LF_st hs')
theorem LS_there {ls : List Int} (hl : ls.length ≤ 5) {h : Nat} (hh : 1 ≤ h ∧ h ≤ 3) : ∃ s ∈ stn h ls.length, LS ls h s = hs h 0 (DD ls) := by
  let s := (List.range ls.length).map fun i => (LF ls).idxOf i % h
  have hm : s ∈ stn h ls.length := by
    rw [stn_mem]
    refine ⟨by simp [s], fun x hx => ?_⟩
    obtain ⟨i, _, rfl⟩ := List.mem_map.mp hx
    exact Nat.mod_lt _ (by omega)
  refine ⟨s, hm, ?_⟩
  rw [LS_is hm, ← there hh hl (DD_len ls)]
  congr 2
  apply List.ext_getElem
  · rw [List.length_map, LF_len, List.length_map, List.length_range]
  · intro i h1 h2
    rw [List.length_map] at h1
    rw [List.getElem_map, List.getElem_map, List.getElem_range]
    have hi : (LF ls)[i] < ls.length := LF_mem.mp (List.getElem_mem h1)
    have e1 : st s (LF ls)[i] = (LF ls).idxOf ((LF ls)[i]) % h := by
      unfold st
      rw [List.getD_eq_getElem?_getD, List.getElem?_eq_getElem (by simp [s]; exact hi)]
      simp [s]
    rw [e1, (LF_nodup ls).idxOf_getElem]
/-! ### the told rows -/
def tell (h : Nat) : Nat → List Nat → List (List Nat) → List (List Nat)
  | _, [], f => f
  | p, x :: r, f => tell h (p + 1) r (f.set (p % h) (x :: f.getD (p % h) []))
theorem tell_len (h : Nat) : ∀ (r : List Nat) (p : Nat) (f : List (List Nat)), (tell h p r f).length = f.length
  | [], _, _ => rfl
  | x :: r, p, f => by rw [tell, tell_len h r, List.length_set]
theorem flat_set {x : Nat} : ∀ {f : List (List Nat)} {k : Nat}, k < f.length → (f.set k (x :: f.getD k [])).flatten.Perm (x :: f.flatten)
  | [], k, h => absurd h (Nat.not_lt_zero _)
  | y :: f, 0, _ => by simp
  | y :: f, k + 1, h => by
    have ih := flat_set (x := x) (f := f) (k := k) (by simpa using h)
    rw [List.set_cons_succ, List.flatten_cons, List.flatten_cons, List.getD_cons_succ]
    exact (List.Perm.append_left y ih).trans List.perm_middle
theorem tell_perm {h : Nat} : ∀ (r : List Nat) (p : Nat) (f : List (List Nat)), 1 ≤ h → f.length = h → (tell h p r f).flatten.Perm (r ++ f.flatten)
  | [], _, _, _, _ => List.Perm.refl _
  | x :: r, p, f, h1, hf => by
    rw [tell]
    refine (tell_perm r (p + 1) _ h1 (by rw [List.length_set]; exact hf)).trans ?_
    refine (List.Perm.append_left r (flat_set (by rw [hf]; exact Nat.mod_lt _ h1))).trans ?_
    rw [List.cons_append]
    exact List.perm_middle
def costs (ls : List Int) (f : List (List Nat)) : Int := (f.map fun r => cost (r.map (ln ls))).sum
theorem costs_set (ls : List Int) {x : Nat} : ∀ {f : List (List Nat)} {k : Nat}, k < f.length → costs ls (f.set k (x :: f.getD k [])) = costs ls f + ln ls x * (((f.getD k []).length : Int) + 1)
  | [], k, h => absurd h (Nat.not_lt_zero _)
  | y :: f, 0, _ => by
    simp [costs, cost]
    omega
  | y :: f, k + 1, h => by
    have ih := costs_set ls (x := x) (f := f) (k := k) (by simpa using h)
    unfold costs at ih ⊢
    rw [List.getD_cons_succ, List.set_cons_succ, List.map_cons, List.sum_cons, ih, List.map_cons, List.sum_cons]
    omega
theorem cnt_next {h p k : Nat} (hh : 1 ≤ h ∧ h ≤ 4) (hk : k < h) : (p + 1 + h - 1 - k) / h = (p + h - 1 - k) / h + (if p % h = k then 1 else 0) := by
  obtain ⟨a, b⟩ := hh
  have : h = 1 ∨ h = 2 ∨ h = 3 ∨ h = 4 := by omega
  rcases this with rfl | rfl | rfl | rfl <;> split <;> omega
theorem cnt_here {h p : Nat} (hh : 1 ≤ h ∧ h ≤ 4) : (p + h - 1 - p % h) / h = p / h := by
  obtain ⟨a, b⟩ := hh
  have : h = 1 ∨ h = 2 ∨ h = 3 ∨ h = 4 := by omega
  rcases this with rfl | rfl | rfl | rfl <;> omega
theorem tell_costs (ls : List Int) {h : Nat} (hh : 1 ≤ h ∧ h ≤ 4) : ∀ (r : List Nat) (p : Nat) (f : List (List Nat)), f.length = h → (∀ k < h, (f.getD k []).length = (p + h - 1 - k) / h) → costs ls (tell h p r f) = costs ls f + hs h p (r.map (ln ls))
  | [], p, f, _, _ => by simp [tell, hs]
  | x :: r, p, f, hf, hc => by
    have hp : p % h < h := Nat.mod_lt _ (by omega)
    rw [tell, tell_costs ls hh r (p + 1) _ (by rw [List.length_set]; exact hf) fun k hk => ?_, costs_set ls (by rw [hf]; exact hp), hc _ hp, cnt_here hh]
    · simp only [List.map_cons, hs]
      omega
    · rw [cnt_next hh hk, ← hc k hk]
      by_cases e : p % h = k
      · subst e
        rw [if_pos rfl, List.getD_eq_getElem?_getD, List.getElem?_set_self (by rw [hf]; exact hp)]
        rfl
      · rw [if_neg e, List.getD_eq_getElem?_getD, List.getElem?_set_ne e, List.getD_eq_getElem?_getD]
        rfl
def rows (ls : List Int) (h : Nat) : List (List Nat) := tell h 0 (LF ls) (List.replicate h [])
theorem rows_len (ls : List Int) (h : Nat) : (rows ls h).length = h := by rw [rows, tell_len, List.length_replicate]
theorem flat_nil : ∀ h : Nat, (List.replicate h ([] : List Nat)).flatten = []
  | 0 => rfl
  | h + 1 => by rw [List.replicate_succ, List.flatten_cons, flat_nil h]; rfl
theorem rows_perm (ls : List Int) {h : Nat} (h1 : 1 ≤ h) : (rows ls h).flatten.Perm (List.range ls.length) := by
  have q := tell_perm (LF ls) 0 (List.replicate h []) h1 List.length_replicate
  rw [flat_nil, List.append_nil] at q
  exact q.trans (LF_perm ls)
theorem rows_costs (ls : List Int) {h : Nat} (hh : 1 ≤ h ∧ h ≤ 4) : costs ls (rows ls h) = hs h 0 (DD ls) := by
  have q := tell_costs ls hh (LF ls) 0 (List.replicate h []) List.length_replicate fun k hk => by
    rw [List.getD_eq_getElem?_getD, List.getElem?_replicate, if_pos hk]
    show 0 = _
    rw [Nat.div_eq_of_lt (by omega)]
  rw [rows, q]
  have : costs ls (List.replicate h []) = 0 := by
    unfold costs
    rw [List.map_replicate]
    show (List.replicate h (0 : Int)).sum = 0
    clear q hh
    induction h with
    | zero => rfl
    | succ h ih => rw [List.replicate_succ, List.sum_cons, ih]; rfl
  rw [this]
  simp [DD]
/-! ### one hand -/
def ones (ls : List Int) : List Tk := ls.map fun x => (x, 1)
theorem smith_ones : ∀ d : List Int, d.Pairwise (· ≥ ·) → smith (ones d) = costD d 1
  | [], _ => rfl
  | x :: d, h => by
    rw [List.pairwise_cons] at h
    have ih := smith_ones d h.2
    have hm : ∀ r : List Int, (∀ y ∈ r, x ≥ y) → mcross (x, 1) (ones r) = r.sum := by
      intro r
      induction r with
      | nil => intro _; rfl
      | cons y r ih =>
        intro hr
        have e := ih fun z hz => hr z (List.mem_cons_of_mem _ hz)
        have hy := hr y List.mem_cons_self
        show mn (x, 1) (y, 1) + mcross (x, 1) (ones r) = _
        rw [e, List.sum_cons]
        unfold mn
        dsimp only
        split <;> omega
    show (x * 1) + mcross (x, 1) (ones d) + smith (ones d) = _
    rw [hm d h.1, ih]
    simp only [costD]
    rw [costD_next]
    omega
theorem hs_one : ∀ (d : List Int) (p : Nat), hs 1 p d = costD d ((p : Int) + 1)
  | [], _ => rfl
  | x :: d, p => by
    simp only [hs, costD]
    rw [hs_one d (p + 1), Nat.div_one]
    have : (((p + 1 : Nat)) : Int) + 1 = (p : Int) + 1 + 1 := by omega
    rw [this]
theorem smith_one (ls : List Int) : smith (ones ls) = hs 1 0 (DD ls) := by
  rw [hs_one]
  have e := smith_perm (((DD_perm ls).symm).map fun x : Int => ((x, 1) : Tk))
  exact e.trans (smith_ones _ (LF_desc ls))
end Z77
namespace K77
open MP Z76 Z77 EW
variable {T : List FD} [Tb T]
theorem t0 : T[0]? = some ⟨false, 3, 3, bAmt⟩ := T_at 0
theorem t1 : T[1]? = some ⟨false, 2, 3, bWhole 0⟩ := T_at 1
theorem t2 : T[2]? = some ⟨false, 2, 5, bEnds⟩ := T_at 2
theorem t3 : T[3]? = some ⟨false, 1, 5, bSmith⟩ := T_at 3
theorem t9 : T[9]? = some ⟨false, 4, 5, bPairs 0⟩ := T_at 9
theorem t10 : T[10]? = some ⟨false, 1, 1, bReqW 9⟩ := T_at 10
theorem t12 : T[12]? = some ⟨false, 1, 1, bLeast 10 3⟩ := T_at 12
theorem t17 : T[17]? = some ⟨true, 2, 5, bEwer⟩ := T_at 17
theorem t18 : T[18]? = some ⟨false, 2, 5, bDrip⟩ := T_at 18
theorem t19 : T[19]? = some ⟨false, 2, 2, bSip 18⟩ := T_at 19
theorem t20 : T[20]? = some ⟨false, 1, 1, bInt⟩ := T_at 20
theorem t22 : T[22]? = some ⟨false, 2, 3, bOrd 20⟩ := T_at 22
/-! lengths, rows as data -/
abbrev lsD (ls : List Int) : D := .tup (ls.map .int)
theorem idx_ls {ls : List Int} {M : List D} {i : Nat} (h : i < ls.length) : idxS M (lsD ls) (.int (i : Int)) = some (.int (ln ls i)) := by
  refine L2.atI_nat ?_
  rw [List.getElem?_map, List.getElem?_eq_getElem h]
  unfold ln
  rw [List.getD_eq_getElem?_getD, List.getElem?_eq_getElem h]
  rfl
theorem len_ls (ls : List Int) (M : List D) : bltS M .len [lsD ls] = some (.int (ls.length : Nat)) := by
  show some (D.int ((ls.map D.int).length : Nat)) = _
  rw [List.length_map]
theorem bel_oL (b : Nat) (o : List Nat) : bels b (oL o) = true := by
  rw [bels_iff]
  intro d hd
  obtain ⟨i, _, rfl⟩ := List.mem_map.mp hd
  rfl
theorem oL_rg (n : Nat) : rgL 0 (n : Int) = oL (List.range n) := rgL_nat rfl
theorem oL_len (o : List Nat) : (oL o).length = o.length := by simp [oL]
/-! longest_first -/
theorem c4 (k : Nat) (M : List D) {ls : List Int} (hl : ls.length ≤ 100) : runF T 0 (k + 3) 4 [lsD ls] M = .ok (.lst (oL (LF ls))) M := by
  rw [run_eq (T_at 4) rfl]
  have hr : rgOk 0 (ls.length : Nat) = true := rg_ok ⟨by omega, by omega⟩
  have hlim : (oL (List.range ls.length)).length ≤ lim := by
    rw [oL_len, List.length_range]
    exact Nat.le_trans hl (by decide)
  have hm : mapE (evE ⟨runF T 0 k, 0, fun _ _ _ => .bad, false⟩ (.tup (.cons (.neg (.idx (.var 0) (.var 1))) (.cons (.var 1) .nil)))) 1 [some (lsD ls), none] (oL (List.range ls.length)) M =
      .ok ((List.range ls.length).map fun i : Nat => D.tup [.int (-(ln ls i)), .int (i : Int)]) M := mapE_map _ _ _ fun i hi => by
    have e := idx_ls (M := M) (List.mem_range.mp hi)
    show evE _ _ [some (lsD ls), some (.int (i : Int))] M = .ok (.tup [.int (-(ln ls i)), .int (i : Int)]) M
    generalize (i : Int) = ii at *
    have z : ([D.int (-(ln ls i)), D.int ii]).length ≤ lim := by
      show 2 ≤ lim
      decide
    simp only [x_nil, x_cons, x_asg, x_ex, x_ret, x_ite, x_for, x_setI, x_aug, x_raise, e_var, e_lit, e_bin, e_neg, e_cmp, e_chain, e_and, e_or, e_not, e_ite, e_tru, e_tup, e_new, e_call, e_blt, e_mth, e_idx, e_slc, e_rev, p_nil, p_cons, es_nil, es_cons, c_nil, c_cons, n_disp, n_comp, n_comp2, n_listOf, n_listRg, n_sorted, n_dict0, i_seq, i_range, i_enum, i_zip, clOf_call', cl_call, clOf_hi2, clOf_lower2, R.bind_ok, R.bind_exc, R.then_ok, R.then_exc, R.nx_ok, RS.seq_next, RS.seq_ret, RS.seq_exc, ofO_some, asg_name, asg_tup2, wipe_nil, wipe_cons, truth_bl, cont_ref, cont_tup, cont_lst, cont_scr, cont_int, cont_bl, cont_non, cont_str, cont_dct, bin_int, in_add, in_sub, cmp_lt, cmp_le, cmp_gt, cmp_ge, cmp_isnBl, cmp_eqI, cmp_neI, cmp_eqB, cmp_neB, at_0, at_1, at_2, fin_ret, fin_next, fin_keep, fin_exc, clean_int, clean_bl, clean_non, seq_tup, seq_lst, List.getElem?_cons_zero, List.getElem?_cons_succ, List.set_cons_zero, List.set_cons_succ, Option.map_some, List.map_cons, List.map_nil, if_true, if_false, Bool.false_eq_true, Bool.not_true, Bool.not_false, Bool.and_true, Bool.true_and, Bool.false_and, decide_true, decide_false, List.replicate, List.append, List.nil_append, List.cons_append, e, z]
  have hsd : sortD (oL (List.range ls.length)) ((List.range ls.length).map fun i : Nat => D.tup [.int (-(ln ls i)), .int (i : Int)]) = some (.lst (oL (LF ls))) := by
    have q := sortD_map (fun i : Nat => D.int (i : Int)) (fun i : Nat => D.tup [.int (-(ln ls i)), .int (i : Int)]) (fun i => .tuple [.int (-(ln ls i)), .int (i : Int)]) (List.range ls.length) (fun i _ => rfl) (keysOk_pairs _ _ _) (by rw [List.length_range]; exact Nat.le_trans hl (by decide))
    rw [PySem.W.dataLe_ii (fun i => -(ln ls i)) (fun i : Nat => (i : Int))] at q
    exact q
  have hc : clean M (.lst (oL (LF ls))) M = .ok (.lst (oL (LF ls))) M := clean_self (bel_oL _ _)
  have hn : evE (clOf T 0 (k + 2)) (.blt .len (.cons (.var 0) .nil)) [some (lsD ls), none] M = .ok (.int (ls.length : Nat)) M := by
    have q := len_ls ls M
    generalize lsD ls = d at *
    generalize ((ls.length : Nat) : Int) = n at *
    simp only [x_nil, x_cons, x_asg, x_ex, x_ret, x_ite, x_for, x_setI, x_aug, x_raise, e_var, e_lit, e_bin, e_neg, e_cmp, e_chain, e_and, e_or, e_not, e_ite, e_tru, e_tup, e_new, e_call, e_blt, e_mth, e_idx, e_slc, e_rev, p_nil, p_cons, es_nil, es_cons, c_nil, c_cons, n_disp, n_comp, n_comp2, n_listOf, n_listRg, n_sorted, n_dict0, i_seq, i_range, i_enum, i_zip, clOf_call', cl_call, clOf_hi2, clOf_lower2, R.bind_ok, R.bind_exc, R.then_ok, R.then_exc, R.nx_ok, RS.seq_next, RS.seq_ret, RS.seq_exc, ofO_some, asg_name, asg_tup2, wipe_nil, wipe_cons, truth_bl, cont_ref, cont_tup, cont_lst, cont_scr, cont_int, cont_bl, cont_non, cont_str, cont_dct, bin_int, in_add, in_sub, cmp_lt, cmp_le, cmp_gt, cmp_ge, cmp_isnBl, cmp_eqI, cmp_neI, cmp_eqB, cmp_neB, at_0, at_1, at_2, fin_ret, fin_next, fin_keep, fin_exc, clean_int, clean_bl, clean_non, seq_tup, seq_lst, List.getElem?_cons_zero, List.getElem?_cons_succ, List.set_cons_zero, List.set_cons_succ, Option.map_some, List.map_cons, List.map_nil, if_true, if_false, Bool.false_eq_true, Bool.not_true, Bool.not_false, Bool.and_true, Bool.true_and, Bool.false_and, decide_true, decide_false, List.replicate, List.append, List.nil_append, List.cons_append, q]
  have h1 := range_run (cl := clOf T 0 (k + 2)) (a := .lit (.int 0)) (e_lit _ _ _ _) hn hr
  rw [oL_rg] at h1
  have h2 := sortK_run h1 hlim hm hsd
  show fin false M (exSs (clOf T 0 (k + 2)) b4 [some (lsD ls), none] M) = _
  generalize lsD ls = d at *
  generalize oL (LF ls) = lf at *
  simp only [b4, x_cons, x_ret, e_new, h2, R.bind_ok, if_true, R.then_ok, RS.seq_ret, fin_ret, hc]
/-! hands_sum -/
def prs : Nat → List Nat → List (Nat × Nat)
  | _, [] => []
  | p, i :: r => (p, i) :: prs (p + 1) r
def prD (q : Nat × Nat) : D := .tup [.int (q.1 : Int), .int (q.2 : Int)]
theorem enum_oL : ∀ (o : List Nat) (p : Nat), enumL (p : Int) (oL o) = (prs p o).map prD
  | [], _ => rfl
  | i :: o, p => by
    have e := enum_oL o (p + 1)
    have e2 : (((p + 1 : Nat)) : Int) = (p : Int) + 1 := by omega
    rw [e2] at e
    show D.tup [.int (p : Int), .int (i : Int)] :: enumL ((p : Int) + 1) (oL o) = _
    rw [e]
    rfl
theorem prs_len : ∀ (o : List Nat) (p : Nat), (prs p o).length = o.length
  | [], _ => rfl
  | i :: o, p => by simp [prs, prs_len o]
theorem prs_mem : ∀ (o : List Nat) (p : Nat) (q : Nat × Nat), q ∈ prs p o → q.2 ∈ o ∧ q.1 < p + o.length
  | [], _, _, h => by cases h
  | i :: o, p, q, h => by
    rcases List.mem_cons.mp h with rfl | h
    · exact ⟨List.mem_cons_self, by simp⟩
    · obtain ⟨h1, h2⟩ := prs_mem o (p + 1) q h
      exact ⟨List.mem_cons_of_mem _ h1, by simp; omega⟩
theorem prs_sum (ls : List Int) (h : Nat) : ∀ (o : List Nat) (p : Nat), ((prs p o).map fun q => ln ls q.2 * (((q.1 / h : Nat) : Int) + 1)).sum = hs h p (o.map (ln ls))
  | [], _ => rfl
  | i :: o, p => by
    simp only [prs, List.map_cons, List.sum_cons, hs]
    rw [prs_sum ls h o (p + 1)]
theorem fdiv_nat (a b : Nat) : (a : Int).fdiv (b : Int) = ((a / b : Nat) : Int) := by
  rw [Int.fdiv_eq_ediv_of_nonneg _ (by omega)]
  rfl
theorem fmod_nat (a b : Nat) : (a : Int).fmod (b : Int) = ((a % b : Nat) : Int) := by
  rw [Int.fmod_eq_emod_of_nonneg _ (by omega)]
  rfl
theorem c5 (k : Nat) (M : List D) {ls : List Int} (ok : Okl ls) (hl : ls.length ≤ 9) {h : Nat} (hh : 1 ≤ h ∧ h ≤ 4) {hi : Int} (hE : hi = (h : Int)) : runF T 0 (k + 4) 5 [lsD ls, .int hi] M = .ok (.int (hs h 0 (DD ls))) M := by
  rw [run_eq (T_at 5) rfl]
  have q4 := c4 (T := T) k M (ls := ls) (by omega)
  have he : enumL 0 (oL (LF ls)) = (prs 0 (LF ls)).map prD := enum_oL (LF ls) 0
  have hlim : ((prs 0 (LF ls)).map prD).length ≤ lim := by
    rw [List.length_map, prs_len, LF_len]
    exact Nat.le_trans hl (by decide)
  have hc := compL_map (w := ⟨(prs 0 (LF ls)).map prD, none⟩) (tg := .tup [2, 3]) (L := [some (lsD ls), some (.int hi), none, none]) (M := M) (cl := clOf T 0 (k + 3))
    (elt := evE (clOf T 0 (k + 3)) (.bin .mul (.idx (.var 0) (.var 3)) (.bin .add (.bin .fdiv (.var 2) (.var 1)) (.lit (.int 1))))) rfl prD (fun q => .int (ln ls q.2 * (((q.1 / h : Nat) : Int) + 1))) (prs 0 (LF ls)) (fun q hq => by
      obtain ⟨h1, h2⟩ := prs_mem _ _ _ hq
      have hj := LF_mem.mp h1
      have ho := ln_ok ok hj
      have e := idx_ls (M := M) hj
      have hd : intS .fdiv (q.1 : Int) hi = some (((q.1 / h : Nat)) : Int) := by
        rw [hE, in_fdiv (by omega) (by omega), fdiv_nat]
      have hm : intS .mul (ln ls q.2) ((((q.1 / h : Nat)) : Int) + 1) = some (ln ls q.2 * ((((q.1 / h : Nat)) : Int) + 1)) := in_mul (okL (by omega) (by omega))
      refine ⟨[some (lsD ls), some (.int hi), some (.int (q.1 : Int)), some (.int (q.2 : Int))], rfl, ?_⟩
      generalize (q.1 : Int) = a at *
      generalize (q.2 : Int) = b at *
      generalize (((q.1 / h : Nat)) : Int) = c at *
      simp only [x_nil, x_cons, x_asg, x_ex, x_ret, x_ite, x_for, x_setI, x_aug, x_raise, e_var, e_lit, e_bin, e_neg, e_cmp, e_chain, e_and, e_or, e_not, e_ite, e_tru, e_tup, e_new, e_call, e_blt, e_mth, e_idx, e_slc, e_rev, p_nil, p_cons, es_nil, es_cons, c_nil, c_cons, n_disp, n_comp, n_comp2, n_listOf, n_listRg, n_sorted, n_dict0, i_seq, i_range, i_enum, i_zip, clOf_call', cl_call, clOf_hi2, clOf_lower2, R.bind_ok, R.bind_exc, R.then_ok, R.then_exc, R.nx_ok, RS.seq_next, RS.seq_ret, RS.seq_exc, ofO_some, asg_name, asg_tup2, wipe_nil, wipe_cons, truth_bl, cont_ref, cont_tup, cont_lst, cont_scr, cont_int, cont_bl, cont_non, cont_str, cont_dct, bin_int, in_add, in_sub, cmp_lt, cmp_le, cmp_gt, cmp_ge, cmp_isnBl, cmp_eqI, cmp_neI, cmp_eqB, cmp_neB, at_0, at_1, at_2, fin_ret, fin_next, fin_keep, fin_exc, clean_int, clean_bl, clean_non, seq_tup, seq_lst, List.getElem?_cons_zero, List.getElem?_cons_succ, List.set_cons_zero, List.set_cons_succ, Option.map_some, List.map_cons, List.map_nil, if_true, if_false, Bool.false_eq_true, Bool.not_true, Bool.not_false, Bool.and_true, Bool.true_and, Bool.false_and, decide_true, decide_false, List.replicate, List.append, List.nil_append, List.cons_append, e, hd, hm])
  rw [map_int] at hc
  have hsum := prs_sum ls h (LF ls) 0
  generalize lsD ls = d at *
  simp only [b5, x_nil, x_cons, x_asg, x_ex, x_ret, x_ite, x_for, x_setI, x_aug, x_raise, e_var, e_lit, e_bin, e_neg, e_cmp, e_chain, e_and, e_or, e_not, e_ite, e_tru, e_tup, e_new, e_call, e_blt, e_mth, e_idx, e_slc, e_rev, p_nil, p_cons, es_nil, es_cons, c_nil, c_cons, n_disp, n_comp, n_comp2, n_listOf, n_listRg, n_sorted, n_dict0, i_seq, i_range, i_enum, i_zip, clOf_call', cl_call, clOf_hi2, clOf_lower2, R.bind_ok, R.bind_exc, R.then_ok, R.then_exc, R.nx_ok, RS.seq_next, RS.seq_ret, RS.seq_exc, ofO_some, asg_name, asg_tup2, wipe_nil, wipe_cons, truth_bl, cont_ref, cont_tup, cont_lst, cont_scr, cont_int, cont_bl, cont_non, cont_str, cont_dct, bin_int, in_add, in_sub, cmp_lt, cmp_le, cmp_gt, cmp_ge, cmp_isnBl, cmp_eqI, cmp_neI, cmp_eqB, cmp_neB, at_0, at_1, at_2, fin_ret, fin_next, fin_keep, fin_exc, clean_int, clean_bl, clean_non, seq_tup, seq_lst, List.getElem?_cons_zero, List.getElem?_cons_succ, List.set_cons_zero, List.set_cons_succ, Option.map_some, List.map_cons, List.map_nil, if_true, if_false, Bool.false_eq_true, Bool.not_true, Bool.not_false, Bool.and_true, Bool.true_and, Bool.false_and, decide_true, decide_false, List.replicate, List.append, List.nil_append, List.cons_append, q4, he, hlim, hc, blt_sum, hsum, DD]
/-! require_lengths -/
theorem c11 (k : Nat) (M : List D) {ls : List Int} (ok : Okl ls) (h1 : 1 ≤ ls.length) (hl : ls.length ≤ 9) {hi : Int} (hh : 1 ≤ hi ∧ hi ≤ 4) : runF T 0 (k + 2) 11 [lsD ls, .int hi] M = .ok .non M := by
  rw [run_eq (T_at 11) rfl]
  have e1 : decide ((1 : Int) ≤ (ls.length : Nat)) = true := decide_eq_true (by omega)
  have e2 : decide (((ls.length : Nat) : Int) ≤ 9) = true := decide_eq_true (by omega)
  have hlim : (ls.map D.int).length ≤ lim := by
    rw [List.length_map]
    exact Nat.le_trans hl (by decide)
  have hc := compL_map (w := ⟨ls.map D.int, none⟩) (tg := .name 2) (L := [some (lsD ls), some (.int hi), none]) (M := M) (cl := clOf T 0 (k + 1))
    (elt := evE (clOf T 0 (k + 1)) (.call 0 (.cons (.var 2) (.cons (.lit (.int 1)) (.cons (.lit (.int 99)) .nil))))) rfl D.int (fun _ => .bl true) ls (fun x hx => by
      have q := amt_run (T := T) t0 k M (.int x) 1 99 rfl
      rw [amt_int, decide_eq_true (ok x hx).1, decide_eq_true (ok x hx).2] at q
      refine ⟨_, rfl, ?_⟩
      simp only [x_nil, x_cons, x_asg, x_ex, x_ret, x_ite, x_for, x_setI, x_aug, x_raise, e_var, e_lit, e_bin, e_neg, e_cmp, e_chain, e_and, e_or, e_not, e_ite, e_tru, e_tup, e_new, e_call, e_blt, e_mth, e_idx, e_slc, e_rev, p_nil, p_cons, es_nil, es_cons, c_nil, c_cons, n_disp, n_comp, n_comp2, n_listOf, n_listRg, n_sorted, n_dict0, i_seq, i_range, i_enum, i_zip, clOf_call', cl_call, clOf_hi2, clOf_lower2, R.bind_ok, R.bind_exc, R.then_ok, R.then_exc, R.nx_ok, RS.seq_next, RS.seq_ret, RS.seq_exc, ofO_some, asg_name, asg_tup2, wipe_nil, wipe_cons, truth_bl, cont_ref, cont_tup, cont_lst, cont_scr, cont_int, cont_bl, cont_non, cont_str, cont_dct, bin_int, in_add, in_sub, cmp_lt, cmp_le, cmp_gt, cmp_ge, cmp_isnBl, cmp_eqI, cmp_neI, cmp_eqB, cmp_neB, at_0, at_1, at_2, fin_ret, fin_next, fin_keep, fin_exc, clean_int, clean_bl, clean_non, seq_tup, seq_lst, List.getElem?_cons_zero, List.getElem?_cons_succ, List.set_cons_zero, List.set_cons_succ, Option.map_some, List.map_cons, List.map_nil, if_true, if_false, Bool.false_eq_true, Bool.not_true, Bool.not_false, Bool.and_true, Bool.true_and, Bool.false_and, decide_true, decide_false, List.replicate, List.append, List.nil_append, List.cons_append, q])
  have ha : bltS M .all [.lst (ls.map fun _ => D.bl true)] = some (.bl true) := by
    have e : (ls.map fun _ => D.bl true) = (ls.map fun _ => true).map D.bl := by rw [List.map_map]; rfl
    rw [e, blt_all]
    simp
  have q2 := amt_run (T := T) t0 k M (.int hi) 1 4 rfl
  rw [amt_int, decide_eq_true hh.1, decide_eq_true hh.2] at q2
  have hn := len_ls ls M
  have hist : bltS M .isinst [lsD ls, .ty "tuple"] = some (.bl true) := ist_tup M (ls.map D.int)
  have hsq : seqS M (lsD ls) = some ⟨ls.map D.int, none⟩ := seq_tup M (ls.map D.int)
  show fin false M (exSs (clOf T 0 (k + 1)) b11 [some (lsD ls), some (.int hi), none] M) = _
  generalize lsD ls = d at *
  generalize ((ls.length : Nat) : Int) = n at *
  simp only [b11, x_nil, x_cons, x_asg, x_ex, x_ret, x_ite, x_for, x_setI, x_aug, x_raise, e_var, e_lit, e_bin, e_neg, e_cmp, e_chain, e_and, e_or, e_not, e_ite, e_tru, e_tup, e_new, e_call, e_blt, e_mth, e_idx, e_slc, e_rev, p_nil, p_cons, es_nil, es_cons, c_nil, c_cons, n_disp, n_comp, n_comp2, n_listOf, n_listRg, n_sorted, n_dict0, i_seq, i_range, i_enum, i_zip, clOf_call', cl_call, clOf_hi2, clOf_lower2, R.bind_ok, R.bind_exc, R.then_ok, R.then_exc, R.nx_ok, RS.seq_next, RS.seq_ret, RS.seq_exc, ofO_some, asg_name, asg_tup2, wipe_nil, wipe_cons, truth_bl, cont_ref, cont_tup, cont_lst, cont_scr, cont_int, cont_bl, cont_non, cont_str, cont_dct, bin_int, in_add, in_sub, cmp_lt, cmp_le, cmp_gt, cmp_ge, cmp_isnBl, cmp_eqI, cmp_neI, cmp_eqB, cmp_neB, at_0, at_1, at_2, fin_ret, fin_next, fin_keep, fin_exc, clean_int, clean_bl, clean_non, seq_tup, seq_lst, List.getElem?_cons_zero, List.getElem?_cons_succ, List.set_cons_zero, List.set_cons_succ, Option.map_some, List.map_cons, List.map_nil, if_true, if_false, Bool.false_eq_true, Bool.not_true, Bool.not_false, Bool.and_true, Bool.true_and, Bool.false_and, decide_true, decide_false, List.replicate, List.append, List.nil_append, List.cons_append, hist, hn, hsq, e1, e2, hlim, hc, ha, q2]
theorem c16 (k : Nat) (M : List D) {ls : List Int} (ok : Okl ls) (h1 : 1 ≤ ls.length) (hl : ls.length ≤ 9) {h : Nat} (hh : 1 ≤ h ∧ h ≤ 4) {hi : Int} (hE : hi = (h : Int)) : runF T 0 (k + 5) 16 [lsD ls, .int hi] M = .ok (.int (hs h 0 (DD ls))) M := by
  rw [run_eq (T_at 16) rfl]
  have q1 := c11 (T := T) (k + 2) M ok h1 hl (hi := hi) (by omega)
  have q2 := c5 (T := T) k M ok hl hh hE
  simp only [b16, x_nil, x_cons, x_asg, x_ex, x_ret, x_ite, x_for, x_setI, x_aug, x_raise, e_var, e_lit, e_bin, e_neg, e_cmp, e_chain, e_and, e_or, e_not, e_ite, e_tru, e_tup, e_new, e_call, e_blt, e_mth, e_idx, e_slc, e_rev, p_nil, p_cons, es_nil, es_cons, c_nil, c_cons, n_disp, n_comp, n_comp2, n_listOf, n_listRg, n_sorted, n_dict0, i_seq, i_range, i_enum, i_zip, clOf_call', cl_call, clOf_hi2, clOf_lower2, R.bind_ok, R.bind_exc, R.then_ok, R.then_exc, R.nx_ok, RS.seq_next, RS.seq_ret, RS.seq_exc, ofO_some, asg_name, asg_tup2, wipe_nil, wipe_cons, truth_bl, cont_ref, cont_tup, cont_lst, cont_scr, cont_int, cont_bl, cont_non, cont_str, cont_dct, bin_int, in_add, in_sub, cmp_lt, cmp_le, cmp_gt, cmp_ge, cmp_isnBl, cmp_eqI, cmp_neI, cmp_eqB, cmp_neB, at_0, at_1, at_2, fin_ret, fin_next, fin_keep, fin_exc, clean_int, clean_bl, clean_non, seq_tup, seq_lst, List.getElem?_cons_zero, List.getElem?_cons_succ, List.set_cons_zero, List.set_cons_succ, Option.map_some, List.map_cons, List.map_nil, if_true, if_false, Bool.false_eq_true, Bool.not_true, Bool.not_false, Bool.and_true, Bool.true_and, Bool.false_and, decide_true, decide_false, List.replicate, List.append, List.nil_append, List.cons_append, q1, q2]
end K77
namespace K77
open MP Z76 Z77 EW
variable {T : List FD} [Tb T]
/-! rows_told -/
abbrev rowsD (rs : List (List Nat)) : D := .tup (rs.map oD)
/-- the rows in the making, and the list that holds them -/
abbrev fL (fs : List (List Nat)) : List D := fs.map fun f => .lst (oL f)
abbrev rf (m h : Nat) : List D := (List.range h).map fun j => .ref (m + j)
theorem comp6 (cl : Cl) (M : List D) (w : List D) : ∀ (r : List Nat) (h : Nat) (L : Lo), L.length = 7 → compL ⟨w, none⟩ (.name 5) L (evC cl .nil) (evE cl (.new false (.disp .nil))) (oL r) (M ++ List.replicate h (.lst [])) =
    .ok ((List.range r.length).map fun j => .ref (M.length + h + j)) (M ++ List.replicate (h + r.length) (.lst []))
  | [], h, L, _ => by
    exact compL_nil_ok rfl
  | i :: r, h, L, hL => by
    have ih := comp6 cl M w r (h + 1) L hL
    have e1 : (M ++ List.replicate h (.lst [])) ++ [D.lst []] = M ++ List.replicate (h + 1) (.lst []) := by
      rw [List.append_assoc, List.replicate_succ', ]
    have e2 : (M ++ List.replicate h (D.lst [])).length = M.length + h := by simp
    have hn : evE cl (.new false (.disp .nil)) (L.set 5 (some (.int (i : Int)))) (M ++ List.replicate h (.lst [])) = .ok (.ref (M.length + h)) (M ++ List.replicate (h + 1) (.lst [])) := by
      show R.ok (D.ref (M ++ List.replicate h (D.lst [])).length) ((M ++ List.replicate h (.lst [])) ++ [D.lst []]) = _
      rw [e1, e2]
    have q := compL_cons_ok (w := ⟨w, none⟩) (tg := .name 5) (cnd := evC cl .nil) (x := .int (i : Int)) rfl rfl rfl hn ih
    refine q.trans ?_
    rw [List.length_cons, List.range_succ_eq_map, List.map_cons, List.map_map]
    congr 1
    · congr 1
      refine List.map_congr_left fun j _ => ?_
      show D.ref _ = D.ref _
      congr 1
      show M.length + (h + 1) + j = M.length + h + (j + 1)
      omega
    · rw [Nat.add_assoc, Nat.add_comm 1]
theorem ref_at {M : List D} {fs : List (List Nat)} {m : Nat} (hm : m = M.length) {j : Nat} (hj : j < fs.length) (R : List D) : (M ++ (fL fs ++ R))[m + j]? = some (.lst (oL (fs.getD j []))) := by
  rw [hm, List.getElem?_append_right (by omega), Nat.add_sub_cancel_left, List.getElem?_append_left (by rw [List.length_map]; exact hj), List.getElem?_map, List.getElem?_eq_getElem hj, List.getD_eq_getElem?_getD, List.getElem?_eq_getElem hj]
  rfl
theorem ref_set {M : List D} {fs : List (List Nat)} {j : Nat} (hj : j < fs.length) (f : List Nat) (R : List D) : (M ++ (fL fs ++ R)).set (M.length + j) (.lst (oL f)) = M ++ (fL (fs.set j f) ++ R) := by
  rw [List.set_append_right _ _ (by omega), Nat.add_sub_cancel_left, List.set_append_left _ _ (by rw [List.length_map]; exact hj)]
  congr 2
  exact (List.map_set (f := fun f => D.lst (oL f))).symm
theorem top_at (M : List D) (fs : List (List Nat)) (x : D) : (M ++ (fL fs ++ [x]))[M.length + fs.length]? = some x := by
  rw [List.getElem?_append_right (by omega), Nat.add_sub_cancel_left, List.getElem?_append_right (by rw [List.length_map]; exact Nat.le_refl _), List.length_map, Nat.sub_self]
  rfl
theorem rf_at (M0 : List D) (m h : Nat) {k : Nat} (hk : k < h) (x : Int) (hx : x = (k : Int)) : idxS M0 (.lst (rf m h)) (.int x) = some (.ref (m + k)) := by
  subst hx
  refine L2.atI_nat ?_
  rw [List.getElem?_map, List.getElem?_range hk]
  rfl
theorem st6 (cl : Cl) (M : List D) {fs : List (List Nat)} {h : Nat} (hf : fs.length = h) (h1 : 1 ≤ h) {hi : Int} (hE : hi = (h : Int)) (p i : Nat) (hlen : (fs.getD (p % h) []).length < 1000) (d : D) (x5 x6 : Option D) :
    exSs cl b6_0 [some d, some (.int hi), some (.ref (M.length + h)), some (.int (p : Int)), some (.int (i : Int)), x5, x6] (M ++ (fL fs ++ [.lst (rf M.length h)])) =
      .next [some d, some (.int hi), some (.ref (M.length + h)), some (.int (p : Int)), some (.int (i : Int)), x5, x6] (M ++ (fL (fs.set (p % h) (i :: fs.getD (p % h) [])) ++ [.lst (rf M.length h)])) := by
  have hp : p % h < h := Nat.mod_lt _ h1
  have e1 : idxS (M ++ (fL fs ++ [.lst (rf M.length h)])) (.ref (M.length + h)) (.int ((p % h : Nat) : Int)) = some (.ref (M.length + p % h)) := by
    have q := top_at M fs (.lst (rf M.length h))
    rw [hf] at q
    rw [idx_ref q]
    exact rf_at [] M.length h hp _ rfl
  have e2 := ref_at (M := M) (fs := fs) rfl (j := p % h) (by omega) [.lst (rf M.length h)]
  have e3 : mthK (M ++ (fL fs ++ [.lst (rf M.length h)])) (.ref (M.length + p % h)) = true := by
    show (match (M ++ (fL fs ++ [.lst (rf M.length h)]))[M.length + p % h]? with | some (.lst _) => true | _ => false) = true
    rw [e2]
  have e4 : mthS (M ++ (fL fs ++ [.lst (rf M.length h)])) .insert (.ref (M.length + p % h)) [.int 0, .int (i : Int)] = some (.non, M ++ (fL (fs.set (p % h) (i :: fs.getD (p % h) [])) ++ [.lst (rf M.length h)])) := by
    show (match (M ++ (fL fs ++ [D.lst (rf M.length h)]))[M.length + p % h]? with
      | some (.lst l) => if l.length < lim ∧ (0 : Int) ≤ 0 ∧ (0 : Int) < 2 ^ 63 then some (D.non, (M ++ (fL fs ++ [D.lst (rf M.length h)])).set (M.length + p % h) (D.lst (l.take (0 : Int).toNat ++ [D.int (i : Int)] ++ l.drop (0 : Int).toNat))) else none
      | _ => none) = _
    rw [e2]
    show (if (oL (fs.getD (p % h) [])).length < lim ∧ (0 : Int) ≤ 0 ∧ (0 : Int) < 2 ^ 63 then _ else none) = _
    rw [if_pos ⟨by rw [oL_len]; exact Nat.lt_of_lt_of_le hlen (by decide), by decide, by decide⟩]
    exact congrArg (fun z => some (D.non, z)) (ref_set (M := M) (fs := fs) (by omega) (i :: fs.getD (p % h) []) _)
  have hd : intS .mod (p : Int) hi = some ((p % h : Nat) : Int) := by
    rw [hE, in_mod (by omega), fmod_nat]
  generalize (p : Int) = a at *
  generalize (i : Int) = b at *
  generalize ((p % h : Nat) : Int) = c at *
  generalize M ++ (fL fs ++ [.lst (rf M.length h)]) = M1 at *
  simp only [b6_0, x_nil, x_cons, x_asg, x_ex, x_ret, x_ite, x_for, x_setI, x_aug, x_raise, e_var, e_lit, e_bin, e_neg, e_cmp, e_chain, e_and, e_or, e_not, e_ite, e_tru, e_tup, e_new, e_call, e_blt, e_mth, e_idx, e_slc, e_rev, p_nil, p_cons, es_nil, es_cons, c_nil, c_cons, n_disp, n_comp, n_comp2, n_listOf, n_listRg, n_sorted, n_dict0, i_seq, i_range, i_enum, i_zip, clOf_call', cl_call, clOf_hi2, clOf_lower2, R.bind_ok, R.bind_exc, R.then_ok, R.then_exc, R.nx_ok, RS.seq_next, RS.seq_ret, RS.seq_exc, ofO_some, asg_name, asg_tup2, wipe_nil, wipe_cons, truth_bl, cont_ref, cont_tup, cont_lst, cont_scr, cont_int, cont_bl, cont_non, cont_str, cont_dct, bin_int, in_add, in_sub, cmp_lt, cmp_le, cmp_gt, cmp_ge, cmp_isnBl, cmp_eqI, cmp_neI, cmp_eqB, cmp_neB, at_0, at_1, at_2, fin_ret, fin_next, fin_keep, fin_exc, clean_int, clean_bl, clean_non, seq_tup, seq_lst, List.getElem?_cons_zero, List.getElem?_cons_succ, List.set_cons_zero, List.set_cons_succ, Option.map_some, List.map_cons, List.map_nil, if_true, if_false, Bool.false_eq_true, Bool.not_true, Bool.not_false, Bool.and_true, Bool.true_and, Bool.false_and, decide_true, decide_false, List.replicate, List.append, List.nil_append, List.cons_append, hd, e1, e3, e4]
theorem l6 (cl : Cl) (M : List D) {h : Nat} (hh : 1 ≤ h ∧ h ≤ 4) {hi : Int} (hE : hi = (h : Int)) (w : List D) (d : D) (x5 x6 : Option D) : ∀ (r : List Nat) (p : Nat) (fs : List (List Nat)) (x3 x4 : Option D), fs.length = h → (∀ f ∈ fs, f.length + r.length ≤ 100) →
    ∃ y3 y4, forL ⟨w, none⟩ (.tup [3, 4]) (exSs cl b6_0) ((prs p r).map prD) [some d, some (.int hi), some (.ref (M.length + h)), x3, x4, x5, x6] (M ++ (fL fs ++ [.lst (rf M.length h)])) =
      .next [some d, some (.int hi), some (.ref (M.length + h)), y3, y4, x5, x6] (M ++ (fL (tell h p r fs) ++ [.lst (rf M.length h)]))
  | [], p, fs, x3, x4, _, _ => ⟨x3, x4, forL_nil rfl⟩
  | i :: r, p, fs, x3, x4, hf, hl => by
    have hp : p % h < fs.length := by rw [hf]; exact Nat.mod_lt _ (by omega)
    have hg : fs.getD (p % h) [] ∈ fs := by
      rw [List.getD_eq_getElem?_getD, List.getElem?_eq_getElem hp]
      exact List.getElem_mem hp
    have hlen := hl _ hg
    rw [List.length_cons] at hlen
    obtain ⟨y3, y4, ih⟩ := l6 cl M hh hE w d x5 x6 r (p + 1) (fs.set (p % h) (i :: fs.getD (p % h) [])) (some (.int (p : Int))) (some (.int (i : Int))) (by rw [List.length_set]; exact hf) fun f hf' => by
      rcases List.mem_or_eq_of_mem_set hf' with z | z
      · have := hl f z
        rw [List.length_cons] at this
        omega
      · rw [z, List.length_cons]
        omega
    refine ⟨y3, y4, ?_⟩
    rw [tell, ← ih]
    exact forL_cons rfl rfl (st6 cl M hf hh.1 hE p i (by omega) d x5 x6)
theorem bel_rows (b : Nat) (rs : List (List Nat)) : bel b (rowsD rs) = true := by
  show bels b (rs.map oD) = true
  rw [bels_iff]
  intro d hd
  obtain ⟨r, _, rfl⟩ := List.mem_map.mp hd
  exact bel_oL b r
theorem rows_get (rs : List (List Nat)) : ((List.range rs.length).map fun j => oD (rs.getD j [])) = rs.map oD := by
  apply List.ext_getElem
  · simp
  · intro i h1 h2
    simp at h1
    simp [List.getElem?_eq_getElem h1]
theorem c6 (k : Nat) (M : List D) {ls : List Int} (hl : ls.length ≤ 9) {h : Nat} (hh : 1 ≤ h ∧ h ≤ 4) {hi : Int} (hE : hi = (h : Int)) : runF T 0 (k + 4) 6 [lsD ls, .int hi] M = .ok (rowsD (rows ls h)) M := by
  rw [run_eq (T_at 6) rfl]
  show fin false M (exSs (clOf T 0 (k + 3)) b6 [some (lsD ls), some (.int hi), none, none, none, none, none] M) = _
  have q4 := c4 (T := T) k (M ++ (fL (List.replicate h []) ++ [.lst (rf M.length h)])) (ls := ls) (by omega)
  have hr : rgOk 0 hi = true := rg_ok ⟨by omega, by omega⟩
  have hg : rgL 0 hi = oL (List.range h) := rgL_nat hE
  have h1 : evE (clOf T 0 (k + 3)) (.new false (.comp [5] (.new false (.disp .nil)) (.name 5) (.range (.lit (.int 0)) (.var 1)) .nil)) [some (lsD ls), some (.int hi), none, none, none, none, none] M =
      .ok (.ref (M.length + h)) (M ++ (fL (List.replicate h []) ++ [.lst (rf M.length h)])) := by
    have hlim : (oL (List.range h)).length ≤ lim := by
      rw [oL_len, List.length_range]
      exact Nat.le_trans hh.2 (by decide)
    have hc := comp6 (clOf T 0 (k + 3)) M (oL (List.range h)) (List.range h) 0 [some (lsD ls), some (.int hi), none, none, none, none, none] rfl
    rw [List.replicate_zero, List.append_nil, List.length_range, Nat.zero_add] at hc
    have hi1 := range_run (cl := clOf T 0 (k + 3)) (L := [some (lsD ls), some (.int hi), none, none, none, none, none]) (M := M) (a := .lit (.int 0)) (b := .var 1) (e_lit _ _ _ _) rfl hr
    rw [hg] at hi1
    have hcomp : evN (clOf T 0 (k + 3)) (.comp [5] (.new false (.disp .nil)) (.name 5) (.range (.lit (.int 0)) (.var 1)) .nil) [some (lsD ls), some (.int hi), none, none, none, none, none] M = .ok (.lst (rf M.length h)) (M ++ List.replicate h (.lst [])) := by
      rw [n_comp, hi1, R.bind_ok, if_pos hlim]
      show ((compL ⟨oL (List.range h), none⟩ (.name 5) [some (lsD ls), some (.int hi), none, none, none, none, none] _ _ (oL (List.range h)) M).nx).bind _ = _
      rw [hc]
      rfl
    rw [e_new, hcomp, R.bind_ok]
    show R.ok (D.ref (M ++ List.replicate h (D.lst [])).length) ((M ++ List.replicate h (.lst [])) ++ [.lst (rf M.length h)]) = _
    rw [List.length_append, List.length_replicate, List.append_assoc]
    congr 3
    show List.replicate h (D.lst []) = (List.replicate h []).map _
    rw [List.map_replicate]
    rfl
  obtain ⟨y3, y4, h2⟩ := l6 (clOf T 0 (k + 3)) M hh hE ((prs 0 (LF ls)).map prD) (lsD ls) none none (LF ls) 0 (List.replicate h []) none none List.length_replicate fun f hf => by
    rw [(List.mem_replicate.mp hf).2, LF_len]
    simp
    omega
  have he : enumL 0 (oL (LF ls)) = (prs 0 (LF ls)).map prD := enum_oL (LF ls) 0
  replace h2 : _ = RS.next _ (M ++ (fL (rows ls h) ++ [.lst (rf M.length h)])) := h2
  have hlen := rows_len ls h
  have hrest : M ++ (fL (rows ls h) ++ [D.lst (rf M.length h)]) = M ++ (fL (rows ls h) ++ [D.lst (rf M.length h)]) := rfl
  have ht := top_at M (rows ls h) (.lst (rf M.length h))
  rw [hlen] at ht
  have hok : (Wk.mk (rf M.length h) (some (M.length + h))).ok (M ++ (fL (rows ls h) ++ [D.lst (rf M.length h)])) = true := by
    show (match (M ++ (fL (rows ls h) ++ [D.lst (rf M.length h)]))[M.length + h]? with | some (.lst l) => bqs l (rf M.length h) | _ => false) = true
    rw [ht]
    exact bqs_self _
  have hc := compL_map (w := ⟨rf M.length h, some (M.length + h)⟩) (tg := .name 6) (L := [some (lsD ls), some (.int hi), some (.ref (M.length + h)), y3, y4, none, none]) (M := M ++ (fL (rows ls h) ++ [D.lst (rf M.length h)])) (cl := clOf T 0 (k + 3))
    (elt := evE (clOf T 0 (k + 3)) (.blt .tuple (.cons (.var 6) .nil))) hok (fun j => .ref (M.length + j)) (fun j => oD ((rows ls h).getD j [])) (List.range h) (fun j hj => by
      have q := ref_at (M := M) (fs := rows ls h) rfl (j := j) (by rw [hlen]; exact List.mem_range.mp hj) [D.lst (rf M.length h)]
      refine ⟨_, rfl, ?_⟩
      have q2 : bltS (M ++ (fL (rows ls h) ++ [D.lst (rf M.length h)])) .tuple [.ref (M.length + j)] = some (oD ((rows ls h).getD j [])) := by
        show (match (M ++ (fL (rows ls h) ++ [D.lst (rf M.length h)]))[M.length + j]? with | some (.lst l) => some l | _ => none).map D.tup = _
        rw [q]
        rfl
      simp only [x_nil, x_cons, x_asg, x_ex, x_ret, x_ite, x_for, x_setI, x_aug, x_raise, e_var, e_lit, e_bin, e_neg, e_cmp, e_chain, e_and, e_or, e_not, e_ite, e_tru, e_tup, e_new, e_call, e_blt, e_mth, e_idx, e_slc, e_rev, p_nil, p_cons, es_nil, es_cons, c_nil, c_cons, n_disp, n_comp, n_comp2, n_listOf, n_listRg, n_sorted, n_dict0, i_seq, i_range, i_enum, i_zip, clOf_call', cl_call, clOf_hi2, clOf_lower2, R.bind_ok, R.bind_exc, R.then_ok, R.then_exc, R.nx_ok, RS.seq_next, RS.seq_ret, RS.seq_exc, ofO_some, asg_name, asg_tup2, wipe_nil, wipe_cons, truth_bl, cont_ref, cont_tup, cont_lst, cont_scr, cont_int, cont_bl, cont_non, cont_str, cont_dct, bin_int, in_add, in_sub, cmp_lt, cmp_le, cmp_gt, cmp_ge, cmp_isnBl, cmp_eqI, cmp_neI, cmp_eqB, cmp_neB, at_0, at_1, at_2, fin_ret, fin_next, fin_keep, fin_exc, clean_int, clean_bl, clean_non, seq_tup, seq_lst, List.getElem?_cons_zero, List.getElem?_cons_succ, List.set_cons_zero, List.set_cons_succ, Option.map_some, List.map_cons, List.map_nil, if_true, if_false, Bool.false_eq_true, Bool.not_true, Bool.not_false, Bool.and_true, Bool.true_and, Bool.false_and, decide_true, decide_false, List.replicate, List.append, List.nil_append, List.cons_append, q2])
  have hget : ((List.range h).map fun j => oD ((rows ls h).getD j [])) = (rows ls h).map oD := by
    have q := rows_get (rows ls h)
    rw [hlen] at q
    exact q
  rw [hget] at hc
  have hsq : seqS (M ++ (fL (rows ls h) ++ [D.lst (rf M.length h)])) (.ref (M.length + h)) = some ⟨rf M.length h, some (M.length + h)⟩ := by
    show (match (M ++ (fL (rows ls h) ++ [D.lst (rf M.length h)]))[M.length + h]? with | some (.lst l) => some (Wk.mk l (some (M.length + h))) | _ => none) = _
    rw [ht]
  have hlim2 : (rf M.length h).length ≤ lim := by
    rw [List.length_map, List.length_range]
    exact Nat.le_trans hh.2 (by decide)
  have htup : bltS (M ++ (fL (rows ls h) ++ [D.lst (rf M.length h)])) .tuple [.lst ((rows ls h).map oD)] = some (rowsD (rows ls h)) := rfl
  have hcl : clean M (rowsD (rows ls h)) (M ++ (fL (rows ls h) ++ [D.lst (rf M.length h)])) = .ok (rowsD (rows ls h)) M := clean_rest (bel_rows _ _)
  generalize M ++ (fL (rows ls h) ++ [D.lst (rf M.length h)]) = M2 at *
  generalize M ++ (fL (List.replicate h []) ++ [D.lst (rf M.length h)]) = M1 at *
  unfold b6
  refine (congrArg (fin false M) ((seq_next (L1 := [some (lsD ls), some (.int hi), some (.ref (M.length + h)), none, none, none, none]) (M1 := M1) (by rw [x_asg, h1]; rfl)).trans (seq_next (L1 := [some (lsD ls), some (.int hi), some (.ref (M.length + h)), y3, y4, none, none]) (M1 := M2) ?_))).trans ?_
  · generalize lsD ls = d at *
    generalize rf M.length h = rr at *
    generalize D.ref (M.length + h) = f at *
    simp only [x_nil, x_cons, x_asg, x_ex, x_ret, x_ite, x_for, x_setI, x_aug, x_raise, e_var, e_lit, e_bin, e_neg, e_cmp, e_chain, e_and, e_or, e_not, e_ite, e_tru, e_tup, e_new, e_call, e_blt, e_mth, e_idx, e_slc, e_rev, p_nil, p_cons, es_nil, es_cons, c_nil, c_cons, n_disp, n_comp, n_comp2, n_listOf, n_listRg, n_sorted, n_dict0, i_seq, i_range, i_enum, i_zip, clOf_call', cl_call, clOf_hi2, clOf_lower2, R.bind_ok, R.bind_exc, R.then_ok, R.then_exc, R.nx_ok, RS.seq_next, RS.seq_ret, RS.seq_exc, ofO_some, asg_name, asg_tup2, wipe_nil, wipe_cons, truth_bl, cont_ref, cont_tup, cont_lst, cont_scr, cont_int, cont_bl, cont_non, cont_str, cont_dct, bin_int, in_add, in_sub, cmp_lt, cmp_le, cmp_gt, cmp_ge, cmp_isnBl, cmp_eqI, cmp_neI, cmp_eqB, cmp_neB, at_0, at_1, at_2, fin_ret, fin_next, fin_keep, fin_exc, clean_int, clean_bl, clean_non, seq_tup, seq_lst, List.getElem?_cons_zero, List.getElem?_cons_succ, List.set_cons_zero, List.set_cons_succ, Option.map_some, List.map_cons, List.map_nil, if_true, if_false, Bool.false_eq_true, Bool.not_true, Bool.not_false, Bool.and_true, Bool.true_and, Bool.false_and, decide_true, decide_false, List.replicate, List.append, List.nil_append, List.cons_append, q4, he]
    exact h2
  · generalize rowsD (rows ls h) = rd at *
    generalize (rows ls h).map oD = rl at *
    generalize lsD ls = d at *
    generalize hrr : rf M.length h = rr at *
    generalize D.ref (M.length + h) = f at *
    simp only [x_nil, x_cons, x_asg, x_ex, x_ret, x_ite, x_for, x_setI, x_aug, x_raise, e_var, e_lit, e_bin, e_neg, e_cmp, e_chain, e_and, e_or, e_not, e_ite, e_tru, e_tup, e_new, e_call, e_blt, e_mth, e_idx, e_slc, e_rev, p_nil, p_cons, es_nil, es_cons, c_nil, c_cons, n_disp, n_comp, n_comp2, n_listOf, n_listRg, n_sorted, n_dict0, i_seq, i_range, i_enum, i_zip, clOf_call', cl_call, clOf_hi2, clOf_lower2, R.bind_ok, R.bind_exc, R.then_ok, R.then_exc, R.nx_ok, RS.seq_next, RS.seq_ret, RS.seq_exc, ofO_some, asg_name, asg_tup2, wipe_nil, wipe_cons, truth_bl, cont_ref, cont_tup, cont_lst, cont_scr, cont_int, cont_bl, cont_non, cont_str, cont_dct, bin_int, in_add, in_sub, cmp_lt, cmp_le, cmp_gt, cmp_ge, cmp_isnBl, cmp_eqI, cmp_neI, cmp_eqB, cmp_neB, at_0, at_1, at_2, fin_ret, fin_next, fin_keep, fin_exc, clean_int, clean_bl, clean_non, seq_tup, seq_lst, List.getElem?_cons_zero, List.getElem?_cons_succ, List.set_cons_zero, List.set_cons_succ, Option.map_some, List.map_cons, List.map_nil, if_true, if_false, Bool.false_eq_true, Bool.not_true, Bool.not_false, Bool.and_true, Bool.true_and, Bool.false_and, decide_true, decide_false, List.replicate, List.append, List.nil_append, List.cons_append, hsq, hlim2]
    rw [← hrr] at hc ⊢
    replace hc : compL _ _ _ _ _ (rf M.length h) M2 = _ := hc
    rw [hc]
    simp only [x_nil, x_cons, x_asg, x_ex, x_ret, x_ite, x_for, x_setI, x_aug, x_raise, e_var, e_lit, e_bin, e_neg, e_cmp, e_chain, e_and, e_or, e_not, e_ite, e_tru, e_tup, e_new, e_call, e_blt, e_mth, e_idx, e_slc, e_rev, p_nil, p_cons, es_nil, es_cons, c_nil, c_cons, n_disp, n_comp, n_comp2, n_listOf, n_listRg, n_sorted, n_dict0, i_seq, i_range, i_enum, i_zip, clOf_call', cl_call, clOf_hi2, clOf_lower2, R.bind_ok, R.bind_exc, R.then_ok, R.then_exc, R.nx_ok, RS.seq_next, RS.seq_ret, RS.seq_exc, ofO_some, asg_name, asg_tup2, wipe_nil, wipe_cons, truth_bl, cont_ref, cont_tup, cont_lst, cont_scr, cont_int, cont_bl, cont_non, cont_str, cont_dct, bin_int, in_add, in_sub, cmp_lt, cmp_le, cmp_gt, cmp_ge, cmp_isnBl, cmp_eqI, cmp_neI, cmp_eqB, cmp_neB, at_0, at_1, at_2, fin_ret, fin_next, fin_keep, fin_exc, clean_int, clean_bl, clean_non, seq_tup, seq_lst, List.getElem?_cons_zero, List.getElem?_cons_succ, List.set_cons_zero, List.set_cons_succ, Option.map_some, List.map_cons, List.map_nil, if_true, if_false, Bool.false_eq_true, Bool.not_true, Bool.not_false, Bool.and_true, Bool.true_and, Bool.false_and, decide_true, decide_false, List.replicate, List.append, List.nil_append, List.cons_append, htup, hcl]
end K77
namespace K77
open MP Z76 Z77 EW
variable {T : List FD} [Tb T]
/-! values near rows -/
def isT : D → Bool | .tup _ => true | _ => false
def its : D → List D | .tup l => l | _ => []
def ordB (n : Nat) (l : List D) : Bool := match allInts l with | some ns => srtIs (n : Int) ns | none => false
def rowsOk (n h : Nat) : D → Bool
  | .tup rs => decide (rs.length = h) && (rs.all isT && ordB n (rs.flatMap its))
  | _ => false
def okR (d : D) : Prop := (∀ M, bltS M .isinst [d, .ty "tuple"] = some (.bl (isT d))) ∧ ∀ l, d = .tup l → l.all flat = true ∧ l.length ≤ 1000
def okV (v : D) : Prop := (∀ M, bltS M .isinst [v, .ty "tuple"] = some (.bl (isT v))) ∧ ∀ rs, v = .tup rs → rs.length ≤ 1000 ∧ ∀ d ∈ rs, okR d
theorem flat_its {rs : List D} (h : ∀ d ∈ rs, okR d) (ht : rs.all isT = true) : (rs.flatMap its).all flat = true := by
  rw [List.all_eq_true]
  intro x hx
  obtain ⟨d, hd, hx⟩ := List.mem_flatMap.mp hx
  have h1 := List.all_eq_true.mp ht d hd
  cases d <;> first | cases h1 | skip
  rename_i l
  exact List.all_eq_true.mp ((h _ hd).2 l rfl).1 x hx
theorem len_its : ∀ {rs : List D}, (∀ d ∈ rs, okR d) → (rs.flatMap its).length ≤ rs.length * 1000
  | [], _ => Nat.le_refl _
  | d :: rs, h => by
    have ih := len_its fun e he => h e (List.mem_cons_of_mem _ he)
    have h1 : (its d).length ≤ 1000 := by
      cases d <;> first | exact Nat.zero_le _ | skip
      rename_i l
      exact ((h _ List.mem_cons_self).2 l rfl).2
    rw [List.flatMap_cons, List.length_append, List.length_cons]
    omega
theorem its_lim {rs : List D} (h : ∀ d ∈ rs, okR d) (hl : rs.length ≤ 1000) : (rs.flatMap its).length ≤ lim := by
  have := len_its h
  have : rs.length * 1000 ≤ 1000 * 1000 := Nat.mul_le_mul_right _ hl
  exact Nat.le_trans (Nat.le_trans (len_its h) this) (by decide)
theorem srt_amts {n : Nat} {l : List D} {ns : List Int} (ha : allInts l = some ns) (h : srtIs (n : Int) ns = true) : amts (n : Int) l = true := by
  have hp : ns.Perm (rgI (n : Int)) := by
    unfold srtIs sortI at h
    have e := of_decide_eq_true h
    rw [← e]
    exact (List.mergeSort_perm _ _).symm
  rw [allInts_len ha]
  unfold amts
  rw [List.all_map, List.all_eq_true]
  intro i hi
  have hm := hp.mem_iff.mp hi
  unfold rgI at hm
  obtain ⟨j, hj, rfl⟩ := List.mem_map.mp hm
  have hj' := List.mem_range.mp hj
  show (decide (0 ≤ (j : Int)) && decide ((j : Int) ≤ (n : Int) - 1)) = true
  rw [Bool.and_eq_true, decide_eq_true_eq, decide_eq_true_eq]
  omega
theorem srt_length {n : Nat} {l : List D} {ns : List Int} (ha : allInts l = some ns) (h : srtIs (n : Int) ns = true) : l.length = n := by
  by_cases e : ns.length = n
  · rw [allInts_len ha, List.length_map]
    exact e
  · rw [srt_len e] at h
    cases h
theorem whole_ord {n : Nat} {l : List D} : (amts (n : Int) l && match allInts l with | some ns => srtIs (n : Int) ns | none => false) = ordB n l := by
  unfold ordB
  cases ha : allInts l with
  | none => simp
  | some ns =>
    show (amts (n : Int) l && srtIs (n : Int) ns) = srtIs (n : Int) ns
    cases h : srtIs (n : Int) ns with
    | false => simp
    | true => rw [srt_amts ha h]; rfl
theorem ord_ord {n : Nat} {l : List D} : (decide (((l.length : Nat) : Int) = (n : Int)) && match allInts l with | some ns => srtIs (n : Int) ns | none => false) = ordB n l := by
  unfold ordB
  cases ha : allInts l with
  | none => simp
  | some ns =>
    show (decide (((l.length : Nat) : Int) = (n : Int)) && srtIs (n : Int) ns) = srtIs (n : Int) ns
    cases h : srtIs (n : Int) ns with
    | false => simp
    | true =>
      rw [srt_length ha h]
      simp
/-! are_rows_of -/
theorem comp7i (cl : Cl) (M : List D) (L : Lo) (hL : L.length = 6) (l : List D) : compL ⟨l, none⟩ (.name 5) L (evC cl .nil) (evE cl (.var 5)) l M = .ok l M := by
  have q := compL_map (w := ⟨l, none⟩) (tg := .name 5) (L := L) (M := M) (cl := cl) (elt := evE cl (.var 5)) rfl id id l fun x hx => ⟨_, rfl, by
    have e : (L.set 5 (some (id x)))[5]? = some (some x) := by
      rw [List.getElem?_set_self (by omega)]
      rfl
    rw [e_var, e]
    rfl⟩
  rw [List.map_id] at q
  exact q
theorem compL2_cons_ok {w : Wk} {tg : Tg} {L L1 : Lo} {cnd : Lo → List D → R D} {inner : Lo → List D → R (List D)} {x : D} {r ys zs : List D} {M M2 M3 : List D} (hok : w.ok M = true) (ha : asg tg x L = some L1) (hc : cnd L1 M = .ok (.bl true) M) (he : inner L1 M = .ok ys M2) (hr : compL2 w tg L cnd inner r M2 = .ok zs M3) :
    compL2 w tg L cnd inner (x :: r) M = .ok (ys ++ zs) M3 := by
  show (if w.ok M = true then (match asg tg x L with
      | none => R.bad
      | some L1 => (cnd L1 M).bind fun x M1 => (ofO (truth M1 x) M1).bind fun b M1 => if b then (inner L1 M1).bind fun ys M2 => (compL2 w tg L cnd inner r M2).bind fun zs M3 => .ok (ys ++ zs) M3 else compL2 w tg L cnd inner r M1) else .bad) = _
  rw [hok, ha]
  show (if true = true then ((cnd L1 M).bind fun x M1 => (ofO (truth M1 x) M1).bind fun b M1 => if b then (inner L1 M1).bind fun ys M2 => (compL2 w tg L cnd inner r M2).bind fun zs M3 => .ok (ys ++ zs) M3 else compL2 w tg L cnd inner r M1) else .bad) = _
  rw [if_pos rfl, hc, R.bind_ok]
  show ((inner L1 M).bind fun ys M2 => (compL2 w tg L cnd inner r M2).bind fun zs M3 => .ok (ys ++ zs) M3) = _
  rw [he, R.bind_ok, hr]
  rfl
theorem comp7 (cl : Cl) (M : List D) (a b v : Option D) (w : List D) : ∀ rs : List D, rs.all isT = true →
    compL2 ⟨w, none⟩ (.name 4) [a, b, v, none, none, none] (evC cl .nil) (fun L1 M => (evI cl (.seq (.var 4)) L1 M).bind fun w1 M1 => compL w1 (.name 5) (wipe L1 [5]) (evC cl .nil) (evE cl (.var 5)) w1.items M1) rs M = .ok (rs.flatMap its) M
  | [], _ => by
    show (if (Wk.mk w none).ok M = true then R.ok ([] : List D) M else .bad) = _
    have e : (Wk.mk w none).ok M = true := rfl
    rw [e]
    rfl
  | d :: rs, h => by
    rw [List.all_cons, Bool.and_eq_true] at h
    have ih := comp7 cl M a b v w rs h.2
    cases d <;> first | cases h.1 | skip
    rename_i l
    refine compL2_cons_ok rfl rfl rfl ?_ ih
    show (evI cl (.seq (.var 4)) [a, b, v, none, some (.tup l), none] M).bind _ = _
    have hi : evI cl (.seq (.var 4)) [a, b, v, none, some (.tup l), none] M = .ok ⟨l, none⟩ M := rfl
    rw [hi, R.bind_ok]
    exact comp7i cl M _ rfl l
theorem c7 (k : Nat) (M : List D) {ls : List Int} (hl : ls.length ≤ 9) {h : Nat} {hi : Int} (hE : hi = (h : Int)) {v : D} (hv : okV v) : runF T 0 (k + 3) 7 [lsD ls, .int hi, v] M = .ok (.bl (rowsOk ls.length h v)) M := by
  rw [run_eq (T_at 7) rfl]
  show fin false M (exSs (clOf T 0 (k + 2)) b7 [some (lsD ls), some (.int hi), some v, none, none, none] M) = _
  have hist := hv.1 M
  by_cases hT : isT v = true
  · cases v <;> first | cases hT | skip
    rename_i rs
    obtain ⟨hlen, hR⟩ := hv.2 rs rfl
    replace hist : bltS M .isinst [.tup rs, .ty "tuple"] = some (.bl true) := hist
    have hlr : bltS M .len [.tup rs] = some (.int (rs.length : Nat)) := rfl
    have hsq := seq_tup M rs
    by_cases hne : rs.length = h
    · have e1 : decide (((rs.length : Nat) : Int) = hi) = true := decide_eq_true (by omega)
      have hlim : rs.length ≤ lim := Nat.le_trans hlen (by decide)
      have hc := compL_map (w := ⟨rs, none⟩) (tg := .name 4) (L := [some (lsD ls), some (.int hi), some (.tup rs), none, none, none]) (M := M) (cl := clOf T 0 (k + 2)) (elt := evE (clOf T 0 (k + 2)) (.blt .isinst (.cons (.var 4) (.cons (.lit (.ty "tuple")) .nil)))) rfl id (fun d => .bl (isT d)) rs (fun d hd => by
        have q := (hR d hd).1 M
        refine ⟨_, rfl, ?_⟩
        simp only [id, x_nil, x_cons, x_asg, x_ex, x_ret, x_ite, x_for, x_setI, x_aug, x_raise, e_var, e_lit, e_bin, e_neg, e_cmp, e_chain, e_and, e_or, e_not, e_ite, e_tru, e_tup, e_new, e_call, e_blt, e_mth, e_idx, e_slc, e_rev, p_nil, p_cons, es_nil, es_cons, c_nil, c_cons, n_disp, n_comp, n_comp2, n_listOf, n_listRg, n_sorted, n_dict0, i_seq, i_range, i_enum, i_zip, clOf_call', cl_call, clOf_hi2, clOf_lower2, R.bind_ok, R.bind_exc, R.then_ok, R.then_exc, R.nx_ok, RS.seq_next, RS.seq_ret, RS.seq_exc, ofO_some, asg_name, asg_tup2, wipe_nil, wipe_cons, truth_bl, cont_ref, cont_tup, cont_lst, cont_scr, cont_int, cont_bl, cont_non, cont_str, cont_dct, bin_int, in_add, in_sub, cmp_lt, cmp_le, cmp_gt, cmp_ge, cmp_isnBl, cmp_eqI, cmp_neI, cmp_eqB, cmp_neB, at_0, at_1, at_2, fin_ret, fin_next, fin_keep, fin_exc, clean_int, clean_bl, clean_non, seq_tup, seq_lst, List.getElem?_cons_zero, List.getElem?_cons_succ, List.set_cons_zero, List.set_cons_succ, Option.map_some, List.map_cons, List.map_nil, if_true, if_false, Bool.false_eq_true, Bool.not_true, Bool.not_false, Bool.and_true, Bool.true_and, Bool.false_and, decide_true, decide_false, List.replicate, List.append, List.nil_append, List.cons_append, q])
      rw [List.map_id] at hc
      have ha : bltS M .all [.lst (rs.map fun d => D.bl (isT d))] = some (.bl (rs.all isT)) := by
        have e : (rs.map fun d => D.bl (isT d)) = (rs.map isT).map D.bl := by rw [List.map_map]; rfl
        rw [e, blt_all, List.all_map]
        rfl
      have hres : rowsOk ls.length h (.tup rs) = (rs.all isT && ordB ls.length (rs.flatMap its)) := by
        show (decide (rs.length = h) && _) = _
        rw [decide_eq_true hne, Bool.true_and]
      rw [hres]
      cases hall : rs.all isT with
      | false =>
        rw [hall] at ha
        generalize lsD ls = d at *
        generalize ((rs.length : Nat) : Int) = n at *
        generalize D.tup rs = vv at *
        simp only [b7, x_nil, x_cons, x_asg, x_ex, x_ret, x_ite, x_for, x_setI, x_aug, x_raise, e_var, e_lit, e_bin, e_neg, e_cmp, e_chain, e_and, e_or, e_not, e_ite, e_tru, e_tup, e_new, e_call, e_blt, e_mth, e_idx, e_slc, e_rev, p_nil, p_cons, es_nil, es_cons, c_nil, c_cons, n_disp, n_comp, n_comp2, n_listOf, n_listRg, n_sorted, n_dict0, i_seq, i_range, i_enum, i_zip, clOf_call', cl_call, clOf_hi2, clOf_lower2, R.bind_ok, R.bind_exc, R.then_ok, R.then_exc, R.nx_ok, RS.seq_next, RS.seq_ret, RS.seq_exc, ofO_some, asg_name, asg_tup2, wipe_nil, wipe_cons, truth_bl, cont_ref, cont_tup, cont_lst, cont_scr, cont_int, cont_bl, cont_non, cont_str, cont_dct, bin_int, in_add, in_sub, cmp_lt, cmp_le, cmp_gt, cmp_ge, cmp_isnBl, cmp_eqI, cmp_neI, cmp_eqB, cmp_neB, at_0, at_1, at_2, fin_ret, fin_next, fin_keep, fin_exc, clean_int, clean_bl, clean_non, seq_tup, seq_lst, List.getElem?_cons_zero, List.getElem?_cons_succ, List.set_cons_zero, List.set_cons_succ, Option.map_some, List.map_cons, List.map_nil, if_true, if_false, Bool.false_eq_true, Bool.not_true, Bool.not_false, Bool.and_true, Bool.true_and, Bool.false_and, decide_true, decide_false, List.replicate, List.append, List.nil_append, List.cons_append, hist, hlr, e1, hsq, hlim, hc, ha]
      | true =>
        rw [hall] at ha
        have h2 := comp7 (clOf T 0 (k + 2)) M (some (lsD ls)) (some (.int hi)) (some (.tup rs)) rs rs hall
        have q1 : runF T 0 (k + 2) 1 [.int (ls.length : Nat), .tup (rs.flatMap its)] M = .ok (.bl (ordB ls.length (rs.flatMap its))) M :=
          (whole (T := T) t1 t0 k M (ls.length : Nat) ⟨by omega, by omega⟩ (rs.flatMap its) (flat_its hR hall) (its_lim hR hlen)).trans (congrArg (fun b => R.ok (D.bl b) M) (whole_ord (n := ls.length) (l := rs.flatMap its)))
        have hlim2 := its_lim hR hlen
        have htup : bltS M .tuple [.lst (rs.flatMap its)] = some (.tup (rs.flatMap its)) := rfl
        have hn := len_ls ls M
        have hcomp : evN (clOf T 0 (k + 2)) (.comp2 [4, 5] [5] (.var 5) (.name 4) (.seq (.var 2)) .nil (.name 5) (.seq (.var 4)) .nil) [some (lsD ls), some (.int hi), some (.tup rs), none, none, none] M = .ok (.lst (rs.flatMap its)) M := by
          rw [n_comp2]
          have hi1 : evI (clOf T 0 (k + 2)) (.seq (.var 2)) [some (lsD ls), some (.int hi), some (.tup rs), none, none, none] M = .ok ⟨rs, none⟩ M := rfl
          rw [hi1, R.bind_ok]
          show ((compL2 ⟨rs, none⟩ (.name 4) [some (lsD ls), some (.int hi), some (.tup rs), none, none, none] _ _ rs M).nx).bind _ = _
          rw [h2, R.nx_ok, R.bind_ok, if_pos hlim2]
        generalize lsD ls = d at *
        generalize ((rs.length : Nat) : Int) = n at *
        generalize hrs : rs.flatMap its = fl at *
        generalize ((ls.length : Nat) : Int) = m at *
        generalize D.tup rs = vv at *
        have s1 : exS (clOf T 0 (k + 2)) (.asg (.name 3) (.new true (.comp2 [4, 5] [5] (.var 5) (.name 4) (.seq (.var 2)) .nil (.name 5) (.seq (.var 4)) .nil))) [some d, some (.int hi), some vv, none, none, none] M = .next [some d, some (.int hi), some vv, some (.lst fl), none, none] M := by
          rw [x_asg, e_new, hcomp]
          rfl
        have s2 : exSs (clOf T 0 (k + 2)) (.cons (.ret (.call 1 (.cons (.blt .len (.cons (.var 0) .nil)) (.cons (.blt .tuple (.cons (.var 3) .nil)) .nil)))) .nil) [some d, some (.int hi), some vv, some (.lst fl), none, none] M = .ret (.bl (ordB ls.length fl)) M := by
          simp only [x_nil, x_cons, x_asg, x_ex, x_ret, x_ite, x_for, x_setI, x_aug, x_raise, e_var, e_lit, e_bin, e_neg, e_cmp, e_chain, e_and, e_or, e_not, e_ite, e_tru, e_tup, e_new, e_call, e_blt, e_mth, e_idx, e_slc, e_rev, p_nil, p_cons, es_nil, es_cons, c_nil, c_cons, n_disp, n_comp, n_comp2, n_listOf, n_listRg, n_sorted, n_dict0, i_seq, i_range, i_enum, i_zip, clOf_call', cl_call, clOf_hi2, clOf_lower2, R.bind_ok, R.bind_exc, R.then_ok, R.then_exc, R.nx_ok, RS.seq_next, RS.seq_ret, RS.seq_exc, ofO_some, asg_name, asg_tup2, wipe_nil, wipe_cons, truth_bl, cont_ref, cont_tup, cont_lst, cont_scr, cont_int, cont_bl, cont_non, cont_str, cont_dct, bin_int, in_add, in_sub, cmp_lt, cmp_le, cmp_gt, cmp_ge, cmp_isnBl, cmp_eqI, cmp_neI, cmp_eqB, cmp_neB, at_0, at_1, at_2, fin_ret, fin_next, fin_keep, fin_exc, clean_int, clean_bl, clean_non, seq_tup, seq_lst, List.getElem?_cons_zero, List.getElem?_cons_succ, List.set_cons_zero, List.set_cons_succ, Option.map_some, List.map_cons, List.map_nil, if_true, if_false, Bool.false_eq_true, Bool.not_true, Bool.not_false, Bool.and_true, Bool.true_and, Bool.false_and, decide_true, decide_false, List.replicate, List.append, List.nil_append, List.cons_append, hn, htup, q1]
        have s12 := (seq_next s1).trans s2
        unfold b7
        rw [x_cons]
        have s0 : exS (clOf T 0 (k + 2)) (.ite (.orE (.notE (.tru (.blt .isinst (.cons (.var 2) (.cons (.lit (.ty "tuple")) .nil))))) (.orE (.cmp .ne (.blt .len (.cons (.var 2) .nil)) (.var 1)) (.notE (.tru (.blt .all (.cons (.new true (.comp [4] (.blt .isinst (.cons (.var 4) (.cons (.lit (.ty "tuple")) .nil))) (.name 4) (.seq (.var 2)) .nil)) .nil)))))) (.cons (.ret (.lit (.bl false))) .nil) .nil) [some d, some (.int hi), some vv, none, none, none] M = .next [some d, some (.int hi), some vv, none, none, none] M := by
          simp only [x_nil, x_cons, x_asg, x_ex, x_ret, x_ite, x_for, x_setI, x_aug, x_raise, e_var, e_lit, e_bin, e_neg, e_cmp, e_chain, e_and, e_or, e_not, e_ite, e_tru, e_tup, e_new, e_call, e_blt, e_mth, e_idx, e_slc, e_rev, p_nil, p_cons, es_nil, es_cons, c_nil, c_cons, n_disp, n_comp, n_comp2, n_listOf, n_listRg, n_sorted, n_dict0, i_seq, i_range, i_enum, i_zip, clOf_call', cl_call, clOf_hi2, clOf_lower2, R.bind_ok, R.bind_exc, R.then_ok, R.then_exc, R.nx_ok, RS.seq_next, RS.seq_ret, RS.seq_exc, ofO_some, asg_name, asg_tup2, wipe_nil, wipe_cons, truth_bl, cont_ref, cont_tup, cont_lst, cont_scr, cont_int, cont_bl, cont_non, cont_str, cont_dct, bin_int, in_add, in_sub, cmp_lt, cmp_le, cmp_gt, cmp_ge, cmp_isnBl, cmp_eqI, cmp_neI, cmp_eqB, cmp_neB, at_0, at_1, at_2, fin_ret, fin_next, fin_keep, fin_exc, clean_int, clean_bl, clean_non, seq_tup, seq_lst, List.getElem?_cons_zero, List.getElem?_cons_succ, List.set_cons_zero, List.set_cons_succ, Option.map_some, List.map_cons, List.map_nil, if_true, if_false, Bool.false_eq_true, Bool.not_true, Bool.not_false, Bool.and_true, Bool.true_and, Bool.false_and, decide_true, decide_false, List.replicate, List.append, List.nil_append, List.cons_append, hist, hlr, e1, hsq, hlim, hc, ha]
        rw [s0, RS.seq_next, s12]
        simp only [fin_ret, clean_bl, Bool.true_and]
    · have e1 : decide (((rs.length : Nat) : Int) = hi) = false := decide_eq_false (by omega)
      have hres : rowsOk ls.length h (.tup rs) = false := by
        show (decide (rs.length = h) && _) = _
        rw [decide_eq_false hne, Bool.false_and]
      rw [hres]
      generalize lsD ls = d at *
      generalize ((rs.length : Nat) : Int) = n at *
      generalize D.tup rs = vv at *
      simp only [b7, x_nil, x_cons, x_asg, x_ex, x_ret, x_ite, x_for, x_setI, x_aug, x_raise, e_var, e_lit, e_bin, e_neg, e_cmp, e_chain, e_and, e_or, e_not, e_ite, e_tru, e_tup, e_new, e_call, e_blt, e_mth, e_idx, e_slc, e_rev, p_nil, p_cons, es_nil, es_cons, c_nil, c_cons, n_disp, n_comp, n_comp2, n_listOf, n_listRg, n_sorted, n_dict0, i_seq, i_range, i_enum, i_zip, clOf_call', cl_call, clOf_hi2, clOf_lower2, R.bind_ok, R.bind_exc, R.then_ok, R.then_exc, R.nx_ok, RS.seq_next, RS.seq_ret, RS.seq_exc, ofO_some, asg_name, asg_tup2, wipe_nil, wipe_cons, truth_bl, cont_ref, cont_tup, cont_lst, cont_scr, cont_int, cont_bl, cont_non, cont_str, cont_dct, bin_int, in_add, in_sub, cmp_lt, cmp_le, cmp_gt, cmp_ge, cmp_isnBl, cmp_eqI, cmp_neI, cmp_eqB, cmp_neB, at_0, at_1, at_2, fin_ret, fin_next, fin_keep, fin_exc, clean_int, clean_bl, clean_non, seq_tup, seq_lst, List.getElem?_cons_zero, List.getElem?_cons_succ, List.set_cons_zero, List.set_cons_succ, Option.map_some, List.map_cons, List.map_nil, if_true, if_false, Bool.false_eq_true, Bool.not_true, Bool.not_false, Bool.and_true, Bool.true_and, Bool.false_and, decide_true, decide_false, List.replicate, List.append, List.nil_append, List.cons_append, hist, hlr, e1]
  · rw [Bool.not_eq_true] at hT
    rw [hT] at hist
    have hres : rowsOk ls.length h v = false := by
      cases v <;> first | rfl | cases hT
    rw [hres]
    generalize lsD ls = d at *
    simp only [b7, x_nil, x_cons, x_asg, x_ex, x_ret, x_ite, x_for, x_setI, x_aug, x_raise, e_var, e_lit, e_bin, e_neg, e_cmp, e_chain, e_and, e_or, e_not, e_ite, e_tru, e_tup, e_new, e_call, e_blt, e_mth, e_idx, e_slc, e_rev, p_nil, p_cons, es_nil, es_cons, c_nil, c_cons, n_disp, n_comp, n_comp2, n_listOf, n_listRg, n_sorted, n_dict0, i_seq, i_range, i_enum, i_zip, clOf_call', cl_call, clOf_hi2, clOf_lower2, R.bind_ok, R.bind_exc, R.then_ok, R.then_exc, R.nx_ok, RS.seq_next, RS.seq_ret, RS.seq_exc, ofO_some, asg_name, asg_tup2, wipe_nil, wipe_cons, truth_bl, cont_ref, cont_tup, cont_lst, cont_scr, cont_int, cont_bl, cont_non, cont_str, cont_dct, bin_int, in_add, in_sub, cmp_lt, cmp_le, cmp_gt, cmp_ge, cmp_isnBl, cmp_eqI, cmp_neI, cmp_eqB, cmp_neB, at_0, at_1, at_2, fin_ret, fin_next, fin_keep, fin_exc, clean_int, clean_bl, clean_non, seq_tup, seq_lst, List.getElem?_cons_zero, List.getElem?_cons_succ, List.set_cons_zero, List.set_cons_succ, Option.map_some, List.map_cons, List.map_nil, if_true, if_false, Bool.false_eq_true, Bool.not_true, Bool.not_false, Bool.and_true, Bool.true_and, Bool.false_and, decide_true, decide_false, List.replicate, List.append, List.nil_append, List.cons_append, hist]
/-! the law's own judge -/
theorem ext_run {M : List D} {m : Nat} {a b : List D} (h : M[m]? = some (.lst a)) (hl : a.length + b.length ≤ lim) : mthS M .extend (.ref m) [.lst b] = some (.non, M.set m (.lst (a ++ b))) := by
  show (match M[m]? with
    | some (.lst l) => if l.length + b.length ≤ lim then some (D.non, M.set m (.lst (l ++ b))) else none
    | _ => none) = _
  rw [h]
  exact if_pos hl
theorem mthK_ref {M : List D} {m : Nat} {a : List D} (h : M[m]? = some (.lst a)) : mthK M (.ref m) = true := by
  show (match M[m]? with | some (.lst _) => true | _ => false) = true
  rw [h]
theorem last_at (M : List D) (x : D) : (M ++ [x])[M.length]? = some x := by
  rw [List.getElem?_append_right (Nat.le_refl _), Nat.sub_self]
  rfl
theorem last_set (M : List D) (x y : D) : (M ++ [x]).set M.length y = M ++ [y] := by
  rw [List.set_append_right _ _ (Nat.le_refl _), Nat.sub_self]
  rfl
theorem l23 (cl : Cl) (M : List D) (w : List D) (x0 x1 x2 : Option D) : ∀ (rs : List D) (acc : List D) (x4 : Option D), rs.all isT = true → acc.length + (rs.flatMap its).length ≤ lim →
    ∃ y4, forL ⟨w, none⟩ (.name 4) (exSs cl b23_0) rs [x0, x1, x2, some (.ref M.length), x4] (M ++ [.lst acc]) = .next [x0, x1, x2, some (.ref M.length), y4] (M ++ [.lst (acc ++ rs.flatMap its)])
  | [], acc, x4, _, _ => ⟨x4, by
    rw [forL_nil rfl]
    simp⟩
  | d :: rs, acc, x4, h, hl => by
    rw [List.all_cons, Bool.and_eq_true] at h
    cases d <;> first | cases h.1 | skip
    rename_i l
    rw [List.flatMap_cons, List.length_append] at hl
    replace hl : acc.length + (l.length + (rs.flatMap its).length) ≤ lim := hl
    obtain ⟨y4, ih⟩ := l23 cl M w x0 x1 x2 rs (acc ++ l) (some (.tup l)) h.2 (by rw [List.length_append]; omega)
    refine ⟨y4, ?_⟩
    have e1 := mthK_ref (last_at M (.lst acc))
    have e2 := ext_run (b := l) (last_at M (.lst acc)) (by omega)
    rw [last_set] at e2
    have st : exSs cl b23_0 [x0, x1, x2, some (.ref M.length), some (.tup l)] (M ++ [.lst acc]) = .next [x0, x1, x2, some (.ref M.length), some (.tup l)] (M ++ [.lst (acc ++ l)]) := by
      generalize M ++ [D.lst acc] = M1 at *
      generalize M ++ [D.lst (acc ++ l)] = M2 at *
      simp only [b23_0, x_nil, x_cons, x_asg, x_ex, x_ret, x_ite, x_for, x_setI, x_aug, x_raise, e_var, e_lit, e_bin, e_neg, e_cmp, e_chain, e_and, e_or, e_not, e_ite, e_tru, e_tup, e_new, e_call, e_blt, e_mth, e_idx, e_slc, e_rev, p_nil, p_cons, es_nil, es_cons, c_nil, c_cons, n_disp, n_comp, n_comp2, n_listOf, n_listRg, n_sorted, n_dict0, i_seq, i_range, i_enum, i_zip, clOf_call', cl_call, clOf_hi2, clOf_lower2, R.bind_ok, R.bind_exc, R.then_ok, R.then_exc, R.nx_ok, RS.seq_next, RS.seq_ret, RS.seq_exc, ofO_some, asg_name, asg_tup2, wipe_nil, wipe_cons, truth_bl, cont_ref, cont_tup, cont_lst, cont_scr, cont_int, cont_bl, cont_non, cont_str, cont_dct, bin_int, in_add, in_sub, cmp_lt, cmp_le, cmp_gt, cmp_ge, cmp_isnBl, cmp_eqI, cmp_neI, cmp_eqB, cmp_neB, at_0, at_1, at_2, fin_ret, fin_next, fin_keep, fin_exc, clean_int, clean_bl, clean_non, seq_tup, seq_lst, List.getElem?_cons_zero, List.getElem?_cons_succ, List.set_cons_zero, List.set_cons_succ, Option.map_some, List.map_cons, List.map_nil, if_true, if_false, Bool.false_eq_true, Bool.not_true, Bool.not_false, Bool.and_true, Bool.true_and, Bool.false_and, decide_true, decide_false, List.replicate, List.append, List.nil_append, List.cons_append, e1, e2]
    refine (forL_cons rfl rfl st).trans (ih.trans ?_)
    rw [List.flatMap_cons, List.append_assoc]
    rfl
theorem c23 (k : Nat) (M : List D) {n : Nat} (hn : n ≤ 9) {m : Int} (hm : m = (n : Int)) {h : Nat} {hi : Int} (hE : hi = (h : Int)) {v : D} (hv : okV v) : runF T 0 (k + 3) 23 [.int m, .int hi, v] M = .ok (.bl (rowsOk n h v)) M := by
  rw [run_eq (T_at 23) rfl]
  show fin false M (exSs (clOf T 0 (k + 2)) b23 [some (.int m), some (.int hi), some v, none, none] M) = _
  have hist := hv.1 M
  by_cases hT : isT v = true
  · cases v <;> first | cases hT | skip
    rename_i rs
    obtain ⟨hlen, hR⟩ := hv.2 rs rfl
    replace hist : bltS M .isinst [.tup rs, .ty "tuple"] = some (.bl true) := hist
    have hlr : bltS M .len [.tup rs] = some (.int (rs.length : Nat)) := rfl
    have hsq := seq_tup M rs
    by_cases hne : rs.length = h
    · have e1 : decide (((rs.length : Nat) : Int) = hi) = true := decide_eq_true (by omega)
      have hlim : rs.length ≤ lim := Nat.le_trans hlen (by decide)
      have hc := compL_pure (w := ⟨rs, none⟩) (tg := .name 4) (L := [some (.int m), some (.int hi), some (.tup rs), none, none]) (M := M) (cnd := evC (clOf T 0 (k + 2)) (.cons (.notE (.tru (.blt .isinst (.cons (.var 4) (.cons (.lit (.ty "tuple")) .nil))))) .nil)) (elt := evE (clOf T 0 (k + 2)) (.lit (.int 1)))
        rfl id (fun d => !isT d) (fun _ => .int 1) rs (fun d hd => by
          have q := (hR d hd).1 M
          refine ⟨_, rfl, ?_, fun _ => rfl⟩
          simp only [id, x_nil, x_cons, x_asg, x_ex, x_ret, x_ite, x_for, x_setI, x_aug, x_raise, e_var, e_lit, e_bin, e_neg, e_cmp, e_chain, e_and, e_or, e_not, e_ite, e_tru, e_tup, e_new, e_call, e_blt, e_mth, e_idx, e_slc, e_rev, p_nil, p_cons, es_nil, es_cons, c_nil, c_cons, n_disp, n_comp, n_comp2, n_listOf, n_listRg, n_sorted, n_dict0, i_seq, i_range, i_enum, i_zip, clOf_call', cl_call, clOf_hi2, clOf_lower2, R.bind_ok, R.bind_exc, R.then_ok, R.then_exc, R.nx_ok, RS.seq_next, RS.seq_ret, RS.seq_exc, ofO_some, asg_name, asg_tup2, wipe_nil, wipe_cons, truth_bl, cont_ref, cont_tup, cont_lst, cont_scr, cont_int, cont_bl, cont_non, cont_str, cont_dct, bin_int, in_add, in_sub, cmp_lt, cmp_le, cmp_gt, cmp_ge, cmp_isnBl, cmp_eqI, cmp_neI, cmp_eqB, cmp_neB, at_0, at_1, at_2, fin_ret, fin_next, fin_keep, fin_exc, clean_int, clean_bl, clean_non, seq_tup, seq_lst, List.getElem?_cons_zero, List.getElem?_cons_succ, List.set_cons_zero, List.set_cons_succ, Option.map_some, List.map_cons, List.map_nil, if_true, if_false, Bool.false_eq_true, Bool.not_true, Bool.not_false, Bool.and_true, Bool.true_and, Bool.false_and, decide_true, decide_false, List.replicate, List.append, List.nil_append, List.cons_append, q])
      rw [List.map_id] at hc
      have he : ((rs.filter fun d => !isT d).map fun _ => D.int 1) = ((rs.filter fun d => !isT d).map fun _ => (1 : Int)).map D.int := by
        rw [List.map_map]
        rfl
      have hq : cmpS M .ne (.lst (((rs.filter fun d => !isT d).map fun _ => (1 : Int)).map D.int)) (.lst []) = some (!decide (((rs.filter fun d => !isT d).map fun _ => (1 : Int)) = [])) := cmp_neL M _ []
      have hz : ([] : List D).length ≤ lim := Nat.zero_le _
      have hdec : decide (((rs.filter fun d => !isT d).map fun _ => (1 : Int)) = []) = rs.all isT := by
        rw [Bool.eq_iff_iff, decide_eq_true_eq, List.map_eq_nil_iff, List.filter_eq_nil_iff, List.all_eq_true]
        simp
      rw [hdec] at hq
      have hres : rowsOk n h (.tup rs) = (rs.all isT && ordB n (rs.flatMap its)) := by
        show (decide (rs.length = h) && _) = _
        rw [decide_eq_true hne, Bool.true_and]
      rw [hres]
      generalize ((rs.filter fun d => !isT d).map fun _ => (1 : Int)) = ones at *
      cases hall : rs.all isT with
      | false =>
        rw [hall] at hq
        generalize ((rs.length : Nat) : Int) = nn at *
        generalize D.tup rs = vv at *
        simp only [b23, x_nil, x_cons, x_asg, x_ex, x_ret, x_ite, x_for, x_setI, x_aug, x_raise, e_var, e_lit, e_bin, e_neg, e_cmp, e_chain, e_and, e_or, e_not, e_ite, e_tru, e_tup, e_new, e_call, e_blt, e_mth, e_idx, e_slc, e_rev, p_nil, p_cons, es_nil, es_cons, c_nil, c_cons, n_disp, n_comp, n_comp2, n_listOf, n_listRg, n_sorted, n_dict0, i_seq, i_range, i_enum, i_zip, clOf_call', cl_call, clOf_hi2, clOf_lower2, R.bind_ok, R.bind_exc, R.then_ok, R.then_exc, R.nx_ok, RS.seq_next, RS.seq_ret, RS.seq_exc, ofO_some, asg_name, asg_tup2, wipe_nil, wipe_cons, truth_bl, cont_ref, cont_tup, cont_lst, cont_scr, cont_int, cont_bl, cont_non, cont_str, cont_dct, bin_int, in_add, in_sub, cmp_lt, cmp_le, cmp_gt, cmp_ge, cmp_isnBl, cmp_eqI, cmp_neI, cmp_eqB, cmp_neB, at_0, at_1, at_2, fin_ret, fin_next, fin_keep, fin_exc, clean_int, clean_bl, clean_non, seq_tup, seq_lst, List.getElem?_cons_zero, List.getElem?_cons_succ, List.set_cons_zero, List.set_cons_succ, Option.map_some, List.map_cons, List.map_nil, if_true, if_false, Bool.false_eq_true, Bool.not_true, Bool.not_false, Bool.and_true, Bool.true_and, Bool.false_and, decide_true, decide_false, List.replicate, List.append, List.nil_append, List.cons_append, hist, hlr, e1, hsq, hlim, hc, he, hq, hz]
      | true =>
        rw [hall] at hq
        have hlim2 := its_lim hR hlen
        obtain ⟨y4, h2⟩ := l23 (clOf T 0 (k + 2)) M rs (some (.int m)) (some (.int hi)) (some (.tup rs)) rs [] none hall (by simpa using hlim2)
        rw [List.nil_append] at h2
        have q1 : runF T 0 (k + 2) 22 [.int m, .tup (rs.flatMap its)] (M ++ [.lst (rs.flatMap its)]) = .ok (.bl (ordB n (rs.flatMap its))) (M ++ [.lst (rs.flatMap its)]) := by
          rw [hm]
          exact (ord (T := T) t22 t20 k (M ++ [.lst (rs.flatMap its)]) (n : Nat) ⟨by omega, by omega⟩ (rs.flatMap its) (flat_its hR hall) hlim2).trans (congrArg (fun b => R.ok (D.bl b) _) (ord_ord (n := n) (l := rs.flatMap its)))
        have htup : bltS (M ++ [.lst (rs.flatMap its)]) .tuple [.ref M.length] = some (.tup (rs.flatMap its)) := by
          show (match (M ++ [D.lst (rs.flatMap its)])[M.length]? with | some (.lst l) => some l | _ => none).map D.tup = _
          rw [last_at]
          rfl
        have hcl : clean M (.bl (ordB n (rs.flatMap its))) (M ++ [.lst (rs.flatMap its)]) = .ok (.bl (ordB n (rs.flatMap its))) M := clean_rest rfl
        have hsq2 := seq_tup (M ++ [.lst []]) rs
        generalize ordB n (rs.flatMap its) = ans at *
        generalize hfl : rs.flatMap its = fl at *
        generalize ((rs.length : Nat) : Int) = nn at *
        generalize D.tup rs = vv at *
        generalize hM2 : M ++ [D.lst fl] = M2 at *
        have s1 : exS (clOf T 0 (k + 2)) (.ite (.orE (.notE (.tru (.blt .isinst (.cons (.var 2) (.cons (.lit (.ty "tuple")) .nil))))) (.orE (.cmp .ne (.blt .len (.cons (.var 2) .nil)) (.var 1)) (.cmp .ne (.new true (.comp [4] (.lit (.int 1)) (.name 4) (.seq (.var 2)) (.cons (.notE (.tru (.blt .isinst (.cons (.var 4) (.cons (.lit (.ty "tuple")) .nil))))) .nil))) (.new true (.disp .nil))))) (.cons (.ret (.lit (.bl false))) .nil) .nil) [some (.int m), some (.int hi), some vv, none, none] M = .next [some (.int m), some (.int hi), some vv, none, none] M := by
          simp only [x_nil, x_cons, x_asg, x_ex, x_ret, x_ite, x_for, x_setI, x_aug, x_raise, e_var, e_lit, e_bin, e_neg, e_cmp, e_chain, e_and, e_or, e_not, e_ite, e_tru, e_tup, e_new, e_call, e_blt, e_mth, e_idx, e_slc, e_rev, p_nil, p_cons, es_nil, es_cons, c_nil, c_cons, n_disp, n_comp, n_comp2, n_listOf, n_listRg, n_sorted, n_dict0, i_seq, i_range, i_enum, i_zip, clOf_call', cl_call, clOf_hi2, clOf_lower2, R.bind_ok, R.bind_exc, R.then_ok, R.then_exc, R.nx_ok, RS.seq_next, RS.seq_ret, RS.seq_exc, ofO_some, asg_name, asg_tup2, wipe_nil, wipe_cons, truth_bl, cont_ref, cont_tup, cont_lst, cont_scr, cont_int, cont_bl, cont_non, cont_str, cont_dct, bin_int, in_add, in_sub, cmp_lt, cmp_le, cmp_gt, cmp_ge, cmp_isnBl, cmp_eqI, cmp_neI, cmp_eqB, cmp_neB, at_0, at_1, at_2, fin_ret, fin_next, fin_keep, fin_exc, clean_int, clean_bl, clean_non, seq_tup, seq_lst, List.getElem?_cons_zero, List.getElem?_cons_succ, List.set_cons_zero, List.set_cons_succ, Option.map_some, List.map_cons, List.map_nil, if_true, if_false, Bool.false_eq_true, Bool.not_true, Bool.not_false, Bool.and_true, Bool.true_and, Bool.false_and, decide_true, decide_false, List.replicate, List.append, List.nil_append, List.cons_append, hist, hlr, e1, hsq, hlim, hc, he, hq, hz]
        have s2 : exS (clOf T 0 (k + 2)) (.asg (.name 3) (.new false (.disp .nil))) [some (.int m), some (.int hi), some vv, none, none] M = .next [some (.int m), some (.int hi), some vv, some (.ref M.length), none] (M ++ [.lst []]) := rfl
        have s3 : exS (clOf T 0 (k + 2)) (.«for» (.name 4) (.seq (.var 2)) b23_0) [some (.int m), some (.int hi), some vv, some (.ref M.length), none] (M ++ [.lst []]) = .next [some (.int m), some (.int hi), some vv, some (.ref M.length), y4] M2 := by
          simp only [x_nil, x_cons, x_asg, x_ex, x_ret, x_ite, x_for, x_setI, x_aug, x_raise, e_var, e_lit, e_bin, e_neg, e_cmp, e_chain, e_and, e_or, e_not, e_ite, e_tru, e_tup, e_new, e_call, e_blt, e_mth, e_idx, e_slc, e_rev, p_nil, p_cons, es_nil, es_cons, c_nil, c_cons, n_disp, n_comp, n_comp2, n_listOf, n_listRg, n_sorted, n_dict0, i_seq, i_range, i_enum, i_zip, clOf_call', cl_call, clOf_hi2, clOf_lower2, R.bind_ok, R.bind_exc, R.then_ok, R.then_exc, R.nx_ok, RS.seq_next, RS.seq_ret, RS.seq_exc, ofO_some, asg_name, asg_tup2, wipe_nil, wipe_cons, truth_bl, cont_ref, cont_tup, cont_lst, cont_scr, cont_int, cont_bl, cont_non, cont_str, cont_dct, bin_int, in_add, in_sub, cmp_lt, cmp_le, cmp_gt, cmp_ge, cmp_isnBl, cmp_eqI, cmp_neI, cmp_eqB, cmp_neB, at_0, at_1, at_2, fin_ret, fin_next, fin_keep, fin_exc, clean_int, clean_bl, clean_non, seq_tup, seq_lst, List.getElem?_cons_zero, List.getElem?_cons_succ, List.set_cons_zero, List.set_cons_succ, Option.map_some, List.map_cons, List.map_nil, if_true, if_false, Bool.false_eq_true, Bool.not_true, Bool.not_false, Bool.and_true, Bool.true_and, Bool.false_and, decide_true, decide_false, List.replicate, List.append, List.nil_append, List.cons_append, hsq2]
          exact h2
        have s4 : exSs (clOf T 0 (k + 2)) (.cons (.ret (.call 22 (.cons (.var 0) (.cons (.blt .tuple (.cons (.var 3) .nil)) .nil)))) .nil) [some (.int m), some (.int hi), some vv, some (.ref M.length), y4] M2 = .ret (.bl ans) M2 := by
          simp only [x_nil, x_cons, x_asg, x_ex, x_ret, x_ite, x_for, x_setI, x_aug, x_raise, e_var, e_lit, e_bin, e_neg, e_cmp, e_chain, e_and, e_or, e_not, e_ite, e_tru, e_tup, e_new, e_call, e_blt, e_mth, e_idx, e_slc, e_rev, p_nil, p_cons, es_nil, es_cons, c_nil, c_cons, n_disp, n_comp, n_comp2, n_listOf, n_listRg, n_sorted, n_dict0, i_seq, i_range, i_enum, i_zip, clOf_call', cl_call, clOf_hi2, clOf_lower2, R.bind_ok, R.bind_exc, R.then_ok, R.then_exc, R.nx_ok, RS.seq_next, RS.seq_ret, RS.seq_exc, ofO_some, asg_name, asg_tup2, wipe_nil, wipe_cons, truth_bl, cont_ref, cont_tup, cont_lst, cont_scr, cont_int, cont_bl, cont_non, cont_str, cont_dct, bin_int, in_add, in_sub, cmp_lt, cmp_le, cmp_gt, cmp_ge, cmp_isnBl, cmp_eqI, cmp_neI, cmp_eqB, cmp_neB, at_0, at_1, at_2, fin_ret, fin_next, fin_keep, fin_exc, clean_int, clean_bl, clean_non, seq_tup, seq_lst, List.getElem?_cons_zero, List.getElem?_cons_succ, List.set_cons_zero, List.set_cons_succ, Option.map_some, List.map_cons, List.map_nil, if_true, if_false, Bool.false_eq_true, Bool.not_true, Bool.not_false, Bool.and_true, Bool.true_and, Bool.false_and, decide_true, decide_false, List.replicate, List.append, List.nil_append, List.cons_append, htup, q1]
        unfold b23
        rw [seq_next s1, seq_next s2, seq_next s3, s4, fin_ret, hcl, Bool.true_and]
    · have e1 : decide (((rs.length : Nat) : Int) = hi) = false := decide_eq_false (by omega)
      have hres : rowsOk n h (.tup rs) = false := by
        show (decide (rs.length = h) && _) = _
        rw [decide_eq_false hne, Bool.false_and]
      rw [hres]
      generalize ((rs.length : Nat) : Int) = nn at *
      generalize D.tup rs = vv at *
      simp only [b23, x_nil, x_cons, x_asg, x_ex, x_ret, x_ite, x_for, x_setI, x_aug, x_raise, e_var, e_lit, e_bin, e_neg, e_cmp, e_chain, e_and, e_or, e_not, e_ite, e_tru, e_tup, e_new, e_call, e_blt, e_mth, e_idx, e_slc, e_rev, p_nil, p_cons, es_nil, es_cons, c_nil, c_cons, n_disp, n_comp, n_comp2, n_listOf, n_listRg, n_sorted, n_dict0, i_seq, i_range, i_enum, i_zip, clOf_call', cl_call, clOf_hi2, clOf_lower2, R.bind_ok, R.bind_exc, R.then_ok, R.then_exc, R.nx_ok, RS.seq_next, RS.seq_ret, RS.seq_exc, ofO_some, asg_name, asg_tup2, wipe_nil, wipe_cons, truth_bl, cont_ref, cont_tup, cont_lst, cont_scr, cont_int, cont_bl, cont_non, cont_str, cont_dct, bin_int, in_add, in_sub, cmp_lt, cmp_le, cmp_gt, cmp_ge, cmp_isnBl, cmp_eqI, cmp_neI, cmp_eqB, cmp_neB, at_0, at_1, at_2, fin_ret, fin_next, fin_keep, fin_exc, clean_int, clean_bl, clean_non, seq_tup, seq_lst, List.getElem?_cons_zero, List.getElem?_cons_succ, List.set_cons_zero, List.set_cons_succ, Option.map_some, List.map_cons, List.map_nil, if_true, if_false, Bool.false_eq_true, Bool.not_true, Bool.not_false, Bool.and_true, Bool.true_and, Bool.false_and, decide_true, decide_false, List.replicate, List.append, List.nil_append, List.cons_append, hist, hlr, e1]
  · rw [Bool.not_eq_true] at hT
    rw [hT] at hist
    have hres : rowsOk n h v = false := by
      cases v <;> first | rfl | cases hT
    rw [hres]
    simp only [b23, x_nil, x_cons, x_asg, x_ex, x_ret, x_ite, x_for, x_setI, x_aug, x_raise, e_var, e_lit, e_bin, e_neg, e_cmp, e_chain, e_and, e_or, e_not, e_ite, e_tru, e_tup, e_new, e_call, e_blt, e_mth, e_idx, e_slc, e_rev, p_nil, p_cons, es_nil, es_cons, c_nil, c_cons, n_disp, n_comp, n_comp2, n_listOf, n_listRg, n_sorted, n_dict0, i_seq, i_range, i_enum, i_zip, clOf_call', cl_call, clOf_hi2, clOf_lower2, R.bind_ok, R.bind_exc, R.then_ok, R.then_exc, R.nx_ok, RS.seq_next, RS.seq_ret, RS.seq_exc, ofO_some, asg_name, asg_tup2, wipe_nil, wipe_cons, truth_bl, cont_ref, cont_tup, cont_lst, cont_scr, cont_int, cont_bl, cont_non, cont_str, cont_dct, bin_int, in_add, in_sub, cmp_lt, cmp_le, cmp_gt, cmp_ge, cmp_isnBl, cmp_eqI, cmp_neI, cmp_eqB, cmp_neB, at_0, at_1, at_2, fin_ret, fin_next, fin_keep, fin_exc, clean_int, clean_bl, clean_non, seq_tup, seq_lst, List.getElem?_cons_zero, List.getElem?_cons_succ, List.set_cons_zero, List.set_cons_succ, Option.map_some, List.map_cons, List.map_nil, if_true, if_false, Bool.false_eq_true, Bool.not_true, Bool.not_false, Bool.and_true, Bool.true_and, Bool.false_and, decide_true, decide_false, List.replicate, List.append, List.nil_append, List.cons_append, hist]
end K77
namespace K77
open MP Z76 Z77 EW
variable {T : List FD} [Tb T]
/-! rows that are rows -/
def oI (o : List Nat) : List Int := o.map fun i : Nat => (i : Int)
theorem ints_oL (o : List Nat) : allInts (oL o) = some (oI o) := by
  have e : oL o = (oI o).map D.int := by
    unfold oL oI
    rw [List.map_map]
    rfl
  rw [e, allInts_map]
theorem oL_flat (o : List Nat) : (oL o).all flat = true := by
  rw [List.all_eq_true]
  intro x hx
  obtain ⟨i, _, rfl⟩ := List.mem_map.mp hx
  rfl
theorem ord_good {n : Nat} {o : List Nat} (h : o.Perm (List.range n)) : ordB n (oL o) = true := by
  unfold ordB
  rw [ints_oL]
  show decide (sortI (oI o) = rgI (n : Int)) = true
  haveI : TabC := ⟨[]⟩
  refine decide_eq_true (sortI_is (ns' := rgI (n : Int)) ?_ (rgI_sorted n)).symm
  show ((List.range ((n : Int)).toNat).map fun i : Nat => (i : Int)).Perm (o.map fun i : Nat => (i : Int))
  exact (h.symm).map _
theorem flat_rows : ∀ rs : List (List Nat), (rs.map oD).flatMap its = oL rs.flatten
  | [] => rfl
  | r :: rs => by
    rw [List.map_cons, List.flatMap_cons, flat_rows rs, List.flatten_cons]
    show oL r ++ oL rs.flatten = oL (r ++ rs.flatten)
    simp [oL]
theorem isT_rows (rs : List (List Nat)) : (rs.map oD).all isT = true := by
  rw [List.all_eq_true]
  intro x hx
  obtain ⟨i, _, rfl⟩ := List.mem_map.mp hx
  rfl
theorem rowsOk_good {n h : Nat} {rs : List (List Nat)} (hl : rs.length = h) (hp : rs.flatten.Perm (List.range n)) : rowsOk n h (rowsD rs) = true := by
  show (decide ((rs.map oD).length = h) && ((rs.map oD).all isT && ordB n ((rs.map oD).flatMap its))) = true
  rw [isT_rows, flat_rows, ord_good hp, List.length_map, decide_eq_true hl]
  rfl
theorem rows_of {n : Nat} : ∀ {ds : List D}, ds.all isT = true → (∀ x ∈ ds.flatMap its, ∃ j : Nat, j < n ∧ x = .int (j : Int)) → ∃ rs : List (List Nat), ds = rs.map oD ∧ ∀ r ∈ rs, ∀ i ∈ r, i < n
  | [], _, _ => ⟨[], rfl, fun _ h => nomatch h⟩
  | d :: ds, h, hx => by
    rw [List.all_cons, Bool.and_eq_true] at h
    obtain ⟨rs, e, hr⟩ := rows_of (ds := ds) h.2 fun x hx' => hx x (by rw [List.flatMap_cons]; exact List.mem_append_right _ hx')
    cases d <;> first | cases h.1 | skip
    rename_i l
    have hl : ∃ r : List Nat, l = oL r ∧ ∀ i ∈ r, i < n := by
      have hx' : ∀ x ∈ l, ∃ j : Nat, j < n ∧ x = .int (j : Int) := fun x h' => hx x (by rw [List.flatMap_cons]; exact List.mem_append_left _ h')
      clear hx h e hr
      induction l with
      | nil => exact ⟨[], rfl, fun _ h => nomatch h⟩
      | cons x l ih =>
        obtain ⟨r, e, h⟩ := ih fun y hy => hx' y (List.mem_cons_of_mem _ hy)
        obtain ⟨j, hj, ex⟩ := hx' x List.mem_cons_self
        refine ⟨j :: r, by rw [e, ex]; rfl, fun i hi => ?_⟩
        rcases List.mem_cons.mp hi with z | z
        · omega
        · exact h i z
    obtain ⟨r, e2, h2⟩ := hl
    refine ⟨r :: rs, by rw [e, e2]; rfl, fun r' hr' => ?_⟩
    rcases List.mem_cons.mp hr' with rfl | z
    · exact h2
    · exact hr r' z
theorem rowsOk_is {n h : Nat} {v : D} (hv : rowsOk n h v = true) : ∃ rs : List (List Nat), v = rowsD rs ∧ rs.length = h ∧ ∀ r ∈ rs, ∀ i ∈ r, i < n := by
  cases v <;> first | cases hv | skip
  rename_i ds
  replace hv : (decide (ds.length = h) && (ds.all isT && ordB n (ds.flatMap its))) = true := hv
  rw [Bool.and_eq_true, Bool.and_eq_true, decide_eq_true_eq] at hv
  obtain ⟨h1, h2, h3⟩ := hv
  unfold ordB at h3
  cases ha : allInts (ds.flatMap its) with
  | none => rw [ha] at h3; cases h3
  | some ns =>
    rw [ha] at h3
    replace h3 : srtIs (n : Int) ns = true := h3
    have hp : ns.Perm (rgI (n : Int)) := by
      unfold srtIs sortI at h3
      have e := of_decide_eq_true h3
      rw [← e]
      exact (List.mergeSort_perm _ _).symm
    obtain ⟨rs, e, hr⟩ := rows_of (n := n) h2 fun x hx => by
      rw [allInts_len ha] at hx
      obtain ⟨i, hi, rfl⟩ := List.mem_map.mp hx
      have hm := hp.mem_iff.mp hi
      unfold rgI at hm
      obtain ⟨j, hj, rfl⟩ := List.mem_map.mp hm
      exact ⟨j, by simpa using hj, rfl⟩
    exact ⟨rs, by rw [e], by rw [← h1, e, List.length_map], hr⟩
theorem okR_oD {r : List Nat} (h : r.length ≤ 1000) : okR (oD r) := ⟨fun _ => rfl, fun l e => by
  cases e
  exact ⟨oL_flat r, by rw [oL_len]; exact h⟩⟩
/-! sums of rows -/
theorem go24 (ls : List Int) (cl : Cl) (M : List D) (x1 x3 : Option D) (w : List D) : ∀ (r : List Nat) (e f : Int) (x5 : Option D), (∀ i ∈ r, i < ls.length) →
    ∃ e' y5, forL ⟨w, none⟩ (.name 5) (exSs cl b24_0) (oL r) [some (lsD ls), x1, some (.int f), x3, some (.int e), x5] M = .next [some (lsD ls), x1, some (.int (f + ((r.length : Int) * e + cost (r.map (ln ls))))), x3, some (.int e'), y5] M
  | [], e, f, x5, _ => ⟨e, x5, by
    rw [show oL [] = [] from rfl, forL_nil rfl]
    simp [cost]⟩
  | i :: r, e, f, x5, h => by
    have hi := h i List.mem_cons_self
    obtain ⟨e', y5, ih⟩ := go24 ls cl M x1 x3 w r (e + ln ls i) (f + (e + ln ls i)) (some (.int (i : Int))) fun j hj => h j (List.mem_cons_of_mem _ hj)
    refine ⟨e', y5, ?_⟩
    have q := idx_ls (M := M) hi
    have st : exSs cl b24_0 [some (lsD ls), x1, some (.int f), x3, some (.int e), some (.int (i : Int))] M = .next [some (lsD ls), x1, some (.int (f + (e + ln ls i))), x3, some (.int (e + ln ls i)), some (.int (i : Int))] M := by
      generalize lsD ls = d at *
      generalize (i : Int) = ii at *
      simp only [b24_0, x_nil, x_cons, x_asg, x_ex, x_ret, x_ite, x_for, x_setI, x_aug, x_raise, e_var, e_lit, e_bin, e_neg, e_cmp, e_chain, e_and, e_or, e_not, e_ite, e_tru, e_tup, e_new, e_call, e_blt, e_mth, e_idx, e_slc, e_rev, p_nil, p_cons, es_nil, es_cons, c_nil, c_cons, n_disp, n_comp, n_comp2, n_listOf, n_listRg, n_sorted, n_dict0, i_seq, i_range, i_enum, i_zip, clOf_call', cl_call, clOf_hi2, clOf_lower2, R.bind_ok, R.bind_exc, R.then_ok, R.then_exc, R.nx_ok, RS.seq_next, RS.seq_ret, RS.seq_exc, ofO_some, asg_name, asg_tup2, wipe_nil, wipe_cons, truth_bl, cont_ref, cont_tup, cont_lst, cont_scr, cont_int, cont_bl, cont_non, cont_str, cont_dct, bin_int, in_add, in_sub, cmp_lt, cmp_le, cmp_gt, cmp_ge, cmp_isnBl, cmp_eqI, cmp_neI, cmp_eqB, cmp_neB, at_0, at_1, at_2, fin_ret, fin_next, fin_keep, fin_exc, clean_int, clean_bl, clean_non, seq_tup, seq_lst, List.getElem?_cons_zero, List.getElem?_cons_succ, List.set_cons_zero, List.set_cons_succ, Option.map_some, List.map_cons, List.map_nil, if_true, if_false, Bool.false_eq_true, Bool.not_true, Bool.not_false, Bool.and_true, Bool.true_and, Bool.false_and, decide_true, decide_false, List.replicate, List.append, List.nil_append, List.cons_append, q]
    have e3 : f + (e + ln ls i) + ((r.length : Int) * (e + ln ls i) + cost (r.map (ln ls))) = f + (((i :: r).length : Int) * e + cost ((i :: r).map (ln ls))) := by
      rw [List.map_cons, List.length_cons]
      simp only [cost, List.length_map]
      have e1 : (((r.length + 1 : Nat)) : Int) = (r.length : Int) + 1 := by omega
      rw [e1]
      simp only [Int.mul_add, Int.add_mul, Int.mul_one, Int.one_mul, Int.mul_comm (ln ls i)]
      omega
    rw [← e3]
    exact (forL_cons rfl rfl st).trans ih
theorem rows24 (ls : List Int) (cl : Cl) {M : List D} {wk : Wk} (hok : wk.ok M = true) (enc : List Nat → D) (henc : ∀ (r : List Nat), seqS M (enc r) = some ⟨oL r, none⟩) (x1 : Option D) : ∀ (rs : List (List Nat)) (f : Int) (x3 x4 x5 : Option D), (∀ r ∈ rs, ∀ i ∈ r, i < ls.length) →
    ∃ y3 y4 y5, forL wk (.name 3) (exSs cl b24_1) (rs.map enc) [some (lsD ls), x1, some (.int f), x3, x4, x5] M = .next [some (lsD ls), x1, some (.int (f + costs ls rs)), y3, y4, y5] M
  | [], f, x3, x4, x5, _ => ⟨x3, x4, x5, by
    rw [List.map_nil, forL_nil hok]
    simp [costs]⟩
  | r :: rs, f, x3, x4, x5, h => by
    obtain ⟨e', z5, q⟩ := go24 ls cl M x1 (some (enc r)) (oL r) r 0 f x5 (h r List.mem_cons_self)
    obtain ⟨y3, y4, y5, ih⟩ := rows24 ls cl hok enc henc x1 rs (f + cost (r.map (ln ls))) (some (enc r)) (some (.int e')) z5 fun r' hr' => h r' (List.mem_cons_of_mem _ hr')
    refine ⟨y3, y4, y5, ?_⟩
    rw [Int.mul_zero, Int.zero_add] at q
    have hs := henc r
    have st : exSs cl b24_1 [some (lsD ls), x1, some (.int f), some (enc r), x4, x5] M = .next [some (lsD ls), x1, some (.int (f + cost (r.map (ln ls)))), some (enc r), some (.int e'), z5] M := by
      unfold b24_1
      refine (seq_next (L1 := [some (lsD ls), x1, some (.int f), some (enc r), some (.int 0), x5]) (M1 := M) rfl).trans ((seq_next (L1 := [some (lsD ls), x1, some (.int (f + cost (r.map (ln ls)))), some (enc r), some (.int e'), z5]) (M1 := M) ?_).trans rfl)
      generalize lsD ls = d at *
      generalize enc r = ed at *
      simp only [x_nil, x_cons, x_asg, x_ex, x_ret, x_ite, x_for, x_setI, x_aug, x_raise, e_var, e_lit, e_bin, e_neg, e_cmp, e_chain, e_and, e_or, e_not, e_ite, e_tru, e_tup, e_new, e_call, e_blt, e_mth, e_idx, e_slc, e_rev, p_nil, p_cons, es_nil, es_cons, c_nil, c_cons, n_disp, n_comp, n_comp2, n_listOf, n_listRg, n_sorted, n_dict0, i_seq, i_range, i_enum, i_zip, clOf_call', cl_call, clOf_hi2, clOf_lower2, R.bind_ok, R.bind_exc, R.then_ok, R.then_exc, R.nx_ok, RS.seq_next, RS.seq_ret, RS.seq_exc, ofO_some, asg_name, asg_tup2, wipe_nil, wipe_cons, truth_bl, cont_ref, cont_tup, cont_lst, cont_scr, cont_int, cont_bl, cont_non, cont_str, cont_dct, bin_int, in_add, in_sub, cmp_lt, cmp_le, cmp_gt, cmp_ge, cmp_isnBl, cmp_eqI, cmp_neI, cmp_eqB, cmp_neB, at_0, at_1, at_2, fin_ret, fin_next, fin_keep, fin_exc, clean_int, clean_bl, clean_non, seq_tup, seq_lst, List.getElem?_cons_zero, List.getElem?_cons_succ, List.set_cons_zero, List.set_cons_succ, Option.map_some, List.map_cons, List.map_nil, if_true, if_false, Bool.false_eq_true, Bool.not_true, Bool.not_false, Bool.and_true, Bool.true_and, Bool.false_and, decide_true, decide_false, List.replicate, List.append, List.nil_append, List.cons_append, hs]
      exact q
    have e3 : f + cost (r.map (ln ls)) + costs ls rs = f + costs ls (r :: rs) := by
      unfold costs
      rw [List.map_cons, List.sum_cons]
      omega
    rw [List.map_cons, ← e3]
    exact (forL_cons hok rfl st).trans ih
theorem c24 (k : Nat) {M : List D} {ls : List Int} {rv : D} {wk : Wk} (hsq : seqS M rv = some wk) (hok : wk.ok M = true) (enc : List Nat → D) (henc : ∀ (r : List Nat), seqS M (enc r) = some ⟨oL r, none⟩) {rs : List (List Nat)} (hw : wk.items = rs.map enc) (hr : ∀ r ∈ rs, ∀ i ∈ r, i < ls.length) :
    runF T 0 (k + 1) 24 [lsD ls, rv] M = .ok (.int (costs ls rs)) M := by
  rw [run_eq (T_at 24) rfl]
  show fin false M (exSs (clOf T 0 k) b24 [some (lsD ls), some rv, none, none, none, none] M) = _
  obtain ⟨y3, y4, y5, h⟩ := rows24 ls (clOf T 0 k) hok enc henc (some rv) rs 0 none none none hr
  rw [← hw, Int.zero_add] at h
  generalize lsD ls = d at *
  unfold b24
  rw [seq_next (L1 := [some d, some rv, some (.int 0), none, none, none]) (M1 := M) rfl, seq_next (L1 := [some d, some rv, some (.int (costs ls rs)), y3, y4, y5]) (M1 := M) (by
    simp only [x_nil, x_cons, x_asg, x_ex, x_ret, x_ite, x_for, x_setI, x_aug, x_raise, e_var, e_lit, e_bin, e_neg, e_cmp, e_chain, e_and, e_or, e_not, e_ite, e_tru, e_tup, e_new, e_call, e_blt, e_mth, e_idx, e_slc, e_rev, p_nil, p_cons, es_nil, es_cons, c_nil, c_cons, n_disp, n_comp, n_comp2, n_listOf, n_listRg, n_sorted, n_dict0, i_seq, i_range, i_enum, i_zip, clOf_call', cl_call, clOf_hi2, clOf_lower2, R.bind_ok, R.bind_exc, R.then_ok, R.then_exc, R.nx_ok, RS.seq_next, RS.seq_ret, RS.seq_exc, ofO_some, asg_name, asg_tup2, wipe_nil, wipe_cons, truth_bl, cont_ref, cont_tup, cont_lst, cont_scr, cont_int, cont_bl, cont_non, cont_str, cont_dct, bin_int, in_add, in_sub, cmp_lt, cmp_le, cmp_gt, cmp_ge, cmp_isnBl, cmp_eqI, cmp_neI, cmp_eqB, cmp_neB, at_0, at_1, at_2, fin_ret, fin_next, fin_keep, fin_exc, clean_int, clean_bl, clean_non, seq_tup, seq_lst, List.getElem?_cons_zero, List.getElem?_cons_succ, List.set_cons_zero, List.set_cons_succ, Option.map_some, List.map_cons, List.map_nil, if_true, if_false, Bool.false_eq_true, Bool.not_true, Bool.not_false, Bool.and_true, Bool.true_and, Bool.false_and, decide_true, decide_false, List.replicate, List.append, List.nil_append, List.cons_append, hsq]
    exact h)]
  simp only [x_nil, x_cons, x_asg, x_ex, x_ret, x_ite, x_for, x_setI, x_aug, x_raise, e_var, e_lit, e_bin, e_neg, e_cmp, e_chain, e_and, e_or, e_not, e_ite, e_tru, e_tup, e_new, e_call, e_blt, e_mth, e_idx, e_slc, e_rev, p_nil, p_cons, es_nil, es_cons, c_nil, c_cons, n_disp, n_comp, n_comp2, n_listOf, n_listRg, n_sorted, n_dict0, i_seq, i_range, i_enum, i_zip, clOf_call', cl_call, clOf_hi2, clOf_lower2, R.bind_ok, R.bind_exc, R.then_ok, R.then_exc, R.nx_ok, RS.seq_next, RS.seq_ret, RS.seq_exc, ofO_some, asg_name, asg_tup2, wipe_nil, wipe_cons, truth_bl, cont_ref, cont_tup, cont_lst, cont_scr, cont_int, cont_bl, cont_non, cont_str, cont_dct, bin_int, in_add, in_sub, cmp_lt, cmp_le, cmp_gt, cmp_ge, cmp_isnBl, cmp_eqI, cmp_neI, cmp_eqB, cmp_neB, at_0, at_1, at_2, fin_ret, fin_next, fin_keep, fin_exc, clean_int, clean_bl, clean_non, seq_tup, seq_lst, List.getElem?_cons_zero, List.getElem?_cons_succ, List.set_cons_zero, List.set_cons_succ, Option.map_some, List.map_cons, List.map_nil, if_true, if_false, Bool.false_eq_true, Bool.not_true, Bool.not_false, Bool.and_true, Bool.true_and, Bool.false_and, decide_true, decide_false, List.replicate, List.append, List.nil_append, List.cons_append]
theorem esGo_ones : ∀ (l : List Int) (e f : Int), esGo (l.map fun x => (x, 1)) e f = f + ((l.length : Int) * e + cost l)
  | [], e, f => by simp [esGo, cost]
  | x :: l, e, f => by
    simp only [List.map_cons, esGo, cost, List.length_cons]
    rw [esGo_ones l]
    have e1 : (((l.length + 1 : Nat)) : Int) = (l.length : Int) + 1 := by omega
    rw [e1]
    simp only [Int.mul_add, Int.add_mul, Int.mul_one, Int.one_mul, Int.mul_comm x]
    omega
theorem sumO_ones {ls : List Int} {r : List Nat} (h : ∀ i ∈ r, i < ls.length) : sumO (ones ls) r = cost (r.map (ln ls)) := by
  unfold sumO es
  have e : arr (ones ls) r = (r.map (ln ls)).map fun x => ((x, 1) : Tk) := by
    unfold arr
    rw [List.map_map]
    refine List.map_congr_left fun i hi => ?_
    have hl := h i hi
    unfold tk ones ln
    rw [List.getD_eq_getElem?_getD, List.getElem?_map, List.getElem?_eq_getElem hl]
    show _ = ((ls.getD i 0, 1) : Tk)
    rw [List.getD_eq_getElem?_getD, List.getElem?_eq_getElem hl]
    rfl
  rw [e, esGo_ones]
  simp
theorem ones_ok {ls : List Int} (ok : Okl ls) : Oks (ones ls) := fun t ht => by
  obtain ⟨x, hx, rfl⟩ := List.mem_map.mp ht
  exact ⟨(ok x hx).1, (ok x hx).2, by show (0 : Int) ≤ 1; decide, by show (1 : Int) ≤ 99; decide⟩
theorem ones_len (ls : List Int) : (ones ls).length = ls.length := List.length_map _
theorem comp_ones (cl : Cl) (M : List D) (ls : List Int) (i : Nat) (L : Lo) (hi : i < L.length) (hlim : ls.length ≤ lim) : compL ⟨ls.map D.int, none⟩ (.name i) L (evC cl .nil) (evE cl (.tup (.cons (.var i) (.cons (.lit (.int 1)) .nil)))) (ls.map D.int) M = .ok ((ones ls).map encT) M := by
  have q := compL_map (w := ⟨ls.map D.int, none⟩) (tg := .name i) (L := L) (M := M) (cl := cl) (elt := evE cl (.tup (.cons (.var i) (.cons (.lit (.int 1)) .nil)))) rfl D.int (fun x => encT (x, 1)) ls fun x hx => ⟨_, rfl, by
    have e : (L.set i (some (.int x)))[i]? = some (some (.int x)) := List.getElem?_set_self hi
    have z : ([D.int x, D.int 1]).length ≤ lim := by
      show 2 ≤ lim
      decide
    simp only [x_nil, x_cons, x_asg, x_ex, x_ret, x_ite, x_for, x_setI, x_aug, x_raise, e_var, e_lit, e_bin, e_neg, e_cmp, e_chain, e_and, e_or, e_not, e_ite, e_tru, e_tup, e_new, e_call, e_blt, e_mth, e_idx, e_slc, e_rev, p_nil, p_cons, es_nil, es_cons, c_nil, c_cons, n_disp, n_comp, n_comp2, n_listOf, n_listRg, n_sorted, n_dict0, i_seq, i_range, i_enum, i_zip, clOf_call', cl_call, clOf_hi2, clOf_lower2, R.bind_ok, R.bind_exc, R.then_ok, R.then_exc, R.nx_ok, RS.seq_next, RS.seq_ret, RS.seq_exc, ofO_some, asg_name, asg_tup2, wipe_nil, wipe_cons, truth_bl, cont_ref, cont_tup, cont_lst, cont_scr, cont_int, cont_bl, cont_non, cont_str, cont_dct, bin_int, in_add, in_sub, cmp_lt, cmp_le, cmp_gt, cmp_ge, cmp_isnBl, cmp_eqI, cmp_neI, cmp_eqB, cmp_neB, at_0, at_1, at_2, fin_ret, fin_next, fin_keep, fin_exc, clean_int, clean_bl, clean_non, seq_tup, seq_lst, List.getElem?_cons_zero, List.getElem?_cons_succ, List.set_cons_zero, List.set_cons_succ, Option.map_some, List.map_cons, List.map_nil, if_true, if_false, Bool.false_eq_true, Bool.not_true, Bool.not_false, Bool.and_true, Bool.true_and, Bool.false_and, decide_true, decide_false, List.replicate, List.append, List.nil_append, List.cons_append, e, z]
    rfl⟩
  rw [q]
  unfold ones
  rw [List.map_map]
  rfl
theorem c8 (k : Nat) (M : List D) {ls : List Int} (ok : Okl ls) (hl : ls.length ≤ 9) {rs : List (List Nat)} (hrl : rs.length ≤ 1000) (hr : ∀ r ∈ rs, ∀ i ∈ r, i < ls.length) : runF T 0 (k + 2) 8 [lsD ls, rowsD rs] M = .ok (.int (costs ls rs)) M := by
  rw [run_eq (T_at 8) rfl]
  show fin false M (exSs (clOf T 0 (k + 1)) b8 [some (lsD ls), some (rowsD rs), none, none] M) = _
  have hlim : (ls.map D.int).length ≤ lim := by
    rw [List.length_map]
    exact Nat.le_trans hl (by decide)
  have hlim2 : (rs.map oD).length ≤ lim := by
    rw [List.length_map]
    exact Nat.le_trans hrl (by decide)
  have hx : ∀ i < (ones ls).length, idxS M (.lst ((ones ls).map encT)) (.int (i : Int)) = some (encT (tk (ones ls) i)) := fun i hi => at_ts hi
  have hsq := seq_tup M (rs.map oD)
  have hsl : seqS M (lsD ls) = some ⟨ls.map D.int, none⟩ := seq_tup M (ls.map D.int)
  have hc := compL_map (w := ⟨rs.map oD, none⟩) (tg := .name 2) (L := [some (lsD ls), some (rowsD rs), none, none]) (M := M) (cl := clOf T 0 (k + 1))
    (elt := evE (clOf T 0 (k + 1)) (.call 2 (.cons (.new true (.comp [3] (.tup (.cons (.var 3) (.cons (.lit (.int 1)) .nil))) (.name 3) (.seq (.var 0)) .nil)) (.cons (.var 2) .nil)))) rfl oD (fun r => .int (cost (r.map (ln ls)))) rs (fun r hr' => by
      have h1 := hr r hr'
      have q := ends (T := T) t2 k M (ones_ok ok) hx (o := r) (by rw [ones_len]; exact h1)
      rw [sumO_ones h1] at q
      have hc1 := comp_ones (clOf T 0 (k + 1)) M ls 3 [some (lsD ls), some (rowsD rs), some (oD r), none] (by show 3 < 4; decide) (Nat.le_trans hl (by decide))
      have hn1 : evN (clOf T 0 (k + 1)) (.comp [3] (.tup (.cons (.var 3) (.cons (.lit (.int 1)) .nil))) (.name 3) (.seq (.var 0)) .nil) [some (lsD ls), some (rowsD rs), some (oD r), none] M = .ok (.lst ((ones ls).map encT)) M := by
        rw [n_comp]
        have hi1 : evI (clOf T 0 (k + 1)) (.seq (.var 0)) [some (lsD ls), some (rowsD rs), some (oD r), none] M = .ok ⟨ls.map D.int, none⟩ M := rfl
        rw [hi1, R.bind_ok, if_pos hlim]
        show ((compL _ _ [some (lsD ls), some (rowsD rs), some (oD r), none] _ _ (ls.map D.int) M).nx).bind _ = _
        rw [hc1]
        rfl
      refine ⟨[some (lsD ls), some (rowsD rs), some (oD r), none], rfl, ?_⟩
      generalize lsD ls = d at *
      generalize oD r = rd at *
      generalize rowsD rs = rr at *
      generalize (ones ls).map encT = tl at *
      rw [e_call, es_cons, e_new, hn1]
      simp only [x_nil, x_cons, x_asg, x_ex, x_ret, x_ite, x_for, x_setI, x_aug, x_raise, e_var, e_lit, e_bin, e_neg, e_cmp, e_chain, e_and, e_or, e_not, e_ite, e_tru, e_tup, e_new, e_call, e_blt, e_mth, e_idx, e_slc, e_rev, p_nil, p_cons, es_nil, es_cons, c_nil, c_cons, n_disp, n_comp, n_comp2, n_listOf, n_listRg, n_sorted, n_dict0, i_seq, i_range, i_enum, i_zip, clOf_call', cl_call, clOf_hi2, clOf_lower2, R.bind_ok, R.bind_exc, R.then_ok, R.then_exc, R.nx_ok, RS.seq_next, RS.seq_ret, RS.seq_exc, ofO_some, asg_name, asg_tup2, wipe_nil, wipe_cons, truth_bl, cont_ref, cont_tup, cont_lst, cont_scr, cont_int, cont_bl, cont_non, cont_str, cont_dct, bin_int, in_add, in_sub, cmp_lt, cmp_le, cmp_gt, cmp_ge, cmp_isnBl, cmp_eqI, cmp_neI, cmp_eqB, cmp_neB, at_0, at_1, at_2, fin_ret, fin_next, fin_keep, fin_exc, clean_int, clean_bl, clean_non, seq_tup, seq_lst, List.getElem?_cons_zero, List.getElem?_cons_succ, List.set_cons_zero, List.set_cons_succ, Option.map_some, List.map_cons, List.map_nil, if_true, if_false, Bool.false_eq_true, Bool.not_true, Bool.not_false, Bool.and_true, Bool.true_and, Bool.false_and, decide_true, decide_false, List.replicate, List.append, List.nil_append, List.cons_append, q])
  rw [map_int] at hc
  have hs : bltS M .sum [.lst ((rs.map fun r => cost (r.map (ln ls))).map D.int)] = some (.int (costs ls rs)) := blt_sum _ _
  generalize (rs.map fun r => cost (r.map (ln ls))).map D.int = il at *
  have hsq' : seqS M (rowsD rs) = some ⟨rs.map oD, none⟩ := hsq
  have hi1 : evI (clOf T 0 (k + 1)) (.seq (.var 1)) [some (lsD ls), some (rowsD rs), none, none] M = .ok ⟨rs.map oD, none⟩ M := rfl
  have hn1 : evN (clOf T 0 (k + 1)) (.comp [2] (.call 2 (.cons (.new true (.comp [3] (.tup (.cons (.var 3) (.cons (.lit (.int 1)) .nil))) (.name 3) (.seq (.var 0)) .nil)) (.cons (.var 2) .nil))) (.name 2) (.seq (.var 1)) .nil) [some (lsD ls), some (rowsD rs), none, none] M = .ok (.lst il) M := by
    rw [n_comp, hi1, R.bind_ok, if_pos hlim2]
    show ((compL _ _ [some (lsD ls), some (rowsD rs), none, none] _ _ (rs.map oD) M).nx).bind _ = _
    rw [hc]
    rfl
  generalize lsD ls = d at *
  generalize rowsD rs = rr at *
  unfold b8
  rw [x_cons, x_ret, e_blt, es_cons, e_new, hn1]
  simp only [x_nil, x_cons, x_asg, x_ex, x_ret, x_ite, x_for, x_setI, x_aug, x_raise, e_var, e_lit, e_bin, e_neg, e_cmp, e_chain, e_and, e_or, e_not, e_ite, e_tru, e_tup, e_new, e_call, e_blt, e_mth, e_idx, e_slc, e_rev, p_nil, p_cons, es_nil, es_cons, c_nil, c_cons, n_disp, n_comp, n_comp2, n_listOf, n_listRg, n_sorted, n_dict0, i_seq, i_range, i_enum, i_zip, clOf_call', cl_call, clOf_hi2, clOf_lower2, R.bind_ok, R.bind_exc, R.then_ok, R.then_exc, R.nx_ok, RS.seq_next, RS.seq_ret, RS.seq_exc, ofO_some, asg_name, asg_tup2, wipe_nil, wipe_cons, truth_bl, cont_ref, cont_tup, cont_lst, cont_scr, cont_int, cont_bl, cont_non, cont_str, cont_dct, bin_int, in_add, in_sub, cmp_lt, cmp_le, cmp_gt, cmp_ge, cmp_isnBl, cmp_eqI, cmp_neI, cmp_eqB, cmp_neB, at_0, at_1, at_2, fin_ret, fin_next, fin_keep, fin_exc, clean_int, clean_bl, clean_non, seq_tup, seq_lst, List.getElem?_cons_zero, List.getElem?_cons_succ, List.set_cons_zero, List.set_cons_succ, Option.map_some, List.map_cons, List.map_nil, if_true, if_false, Bool.false_eq_true, Bool.not_true, Bool.not_false, Bool.and_true, Bool.true_and, Bool.false_and, decide_true, decide_false, List.replicate, List.append, List.nil_append, List.cons_append, hs]
end K77
namespace K77
open MP Z76 Z77 EW
variable {T : List FD} [Tb T]
theorem c13 (k : Nat) (M : List D) {ls : List Int} (ok : Okl ls) (h1 : 1 ≤ ls.length) (hl : ls.length ≤ 9) {h : Nat} (hh : 1 ≤ h ∧ h ≤ 4) {hi : Int} (hE : hi = (h : Int)) {v : D} (hv : okV v) : runF T 0 (k + 4) 13 [lsD ls, .int hi, v] M = .ok (.bl (rowsOk ls.length h v)) M := by
  rw [run_eq (T_at 13) rfl]
  have q1 := c11 (T := T) (k + 1) M ok h1 hl (hi := hi) (by omega)
  have q2 := c7 (T := T) k M hl hE hv
  show fin false M (exSs (clOf T 0 (k + 3)) b13 [some (lsD ls), some (.int hi), some v] M) = _
  generalize lsD ls = d at *
  simp only [b13, x_nil, x_cons, x_asg, x_ex, x_ret, x_ite, x_for, x_setI, x_aug, x_raise, e_var, e_lit, e_bin, e_neg, e_cmp, e_chain, e_and, e_or, e_not, e_ite, e_tru, e_tup, e_new, e_call, e_blt, e_mth, e_idx, e_slc, e_rev, p_nil, p_cons, es_nil, es_cons, c_nil, c_cons, n_disp, n_comp, n_comp2, n_listOf, n_listRg, n_sorted, n_dict0, i_seq, i_range, i_enum, i_zip, clOf_call', cl_call, clOf_hi2, clOf_lower2, R.bind_ok, R.bind_exc, R.then_ok, R.then_exc, R.nx_ok, RS.seq_next, RS.seq_ret, RS.seq_exc, ofO_some, asg_name, asg_tup2, wipe_nil, wipe_cons, truth_bl, cont_ref, cont_tup, cont_lst, cont_scr, cont_int, cont_bl, cont_non, cont_str, cont_dct, bin_int, in_add, in_sub, cmp_lt, cmp_le, cmp_gt, cmp_ge, cmp_isnBl, cmp_eqI, cmp_neI, cmp_eqB, cmp_neB, at_0, at_1, at_2, fin_ret, fin_next, fin_keep, fin_exc, clean_int, clean_bl, clean_non, seq_tup, seq_lst, List.getElem?_cons_zero, List.getElem?_cons_succ, List.set_cons_zero, List.set_cons_succ, Option.map_some, List.map_cons, List.map_nil, if_true, if_false, Bool.false_eq_true, Bool.not_true, Bool.not_false, Bool.and_true, Bool.true_and, Bool.false_and, decide_true, decide_false, List.replicate, List.append, List.nil_append, List.cons_append, q1, q2]
theorem c14no (k : Nat) (M : List D) {ls : List Int} (ok : Okl ls) (h1 : 1 ≤ ls.length) (hl : ls.length ≤ 9) {h : Nat} (hh : 1 ≤ h ∧ h ≤ 4) {hi : Int} (hE : hi = (h : Int)) {v : D} (hv : okV v) (hno : rowsOk ls.length h v = false) : runF T 0 (k + 4) 14 [lsD ls, .int hi, v] M = .exc "InvalidOperation" .non M := by
  rw [run_eq (T_at 14) rfl]
  have q1 := c11 (T := T) (k + 1) M ok h1 hl (hi := hi) (by omega)
  have q2 := c7 (T := T) k M hl hE hv
  rw [hno] at q2
  show fin false M (exSs (clOf T 0 (k + 3)) b14 [some (lsD ls), some (.int hi), some v] M) = _
  generalize lsD ls = d at *
  simp only [b14, x_nil, x_cons, x_asg, x_ex, x_ret, x_ite, x_for, x_setI, x_aug, x_raise, e_var, e_lit, e_bin, e_neg, e_cmp, e_chain, e_and, e_or, e_not, e_ite, e_tru, e_tup, e_new, e_call, e_blt, e_mth, e_idx, e_slc, e_rev, p_nil, p_cons, es_nil, es_cons, c_nil, c_cons, n_disp, n_comp, n_comp2, n_listOf, n_listRg, n_sorted, n_dict0, i_seq, i_range, i_enum, i_zip, clOf_call', cl_call, clOf_hi2, clOf_lower2, R.bind_ok, R.bind_exc, R.then_ok, R.then_exc, R.nx_ok, RS.seq_next, RS.seq_ret, RS.seq_exc, ofO_some, asg_name, asg_tup2, wipe_nil, wipe_cons, truth_bl, cont_ref, cont_tup, cont_lst, cont_scr, cont_int, cont_bl, cont_non, cont_str, cont_dct, bin_int, in_add, in_sub, cmp_lt, cmp_le, cmp_gt, cmp_ge, cmp_isnBl, cmp_eqI, cmp_neI, cmp_eqB, cmp_neB, at_0, at_1, at_2, fin_ret, fin_next, fin_keep, fin_exc, clean_int, clean_bl, clean_non, seq_tup, seq_lst, List.getElem?_cons_zero, List.getElem?_cons_succ, List.set_cons_zero, List.set_cons_succ, Option.map_some, List.map_cons, List.map_nil, if_true, if_false, Bool.false_eq_true, Bool.not_true, Bool.not_false, Bool.and_true, Bool.true_and, Bool.false_and, decide_true, decide_false, List.replicate, List.append, List.nil_append, List.cons_append, q1, q2]
theorem c14 (k : Nat) (M : List D) {ls : List Int} (ok : Okl ls) (h1 : 1 ≤ ls.length) (hl : ls.length ≤ 9) {h : Nat} (hh : 1 ≤ h ∧ h ≤ 4) {hi : Int} (hE : hi = (h : Int)) {rs : List (List Nat)} (hv : okV (rowsD rs)) (hyes : rowsOk ls.length h (rowsD rs) = true) (hr : ∀ r ∈ rs, ∀ i ∈ r, i < ls.length) :
    runF T 0 (k + 4) 14 [lsD ls, .int hi, rowsD rs] M = .ok (.int (costs ls rs)) M := by
  rw [run_eq (T_at 14) rfl]
  have q1 := c11 (T := T) (k + 1) M ok h1 hl (hi := hi) (by omega)
  have q2 := c7 (T := T) k M hl hE hv
  rw [hyes] at q2
  have q3 := c8 (T := T) (k + 1) M ok hl (by have := (hv.2 _ rfl).1; rw [List.length_map] at this; exact this) hr
  show fin false M (exSs (clOf T 0 (k + 3)) b14 [some (lsD ls), some (.int hi), some (rowsD rs)] M) = _
  generalize lsD ls = d at *
  generalize rowsD rs = r at *
  simp only [b14, x_nil, x_cons, x_asg, x_ex, x_ret, x_ite, x_for, x_setI, x_aug, x_raise, e_var, e_lit, e_bin, e_neg, e_cmp, e_chain, e_and, e_or, e_not, e_ite, e_tru, e_tup, e_new, e_call, e_blt, e_mth, e_idx, e_slc, e_rev, p_nil, p_cons, es_nil, es_cons, c_nil, c_cons, n_disp, n_comp, n_comp2, n_listOf, n_listRg, n_sorted, n_dict0, i_seq, i_range, i_enum, i_zip, clOf_call', cl_call, clOf_hi2, clOf_lower2, R.bind_ok, R.bind_exc, R.then_ok, R.then_exc, R.nx_ok, RS.seq_next, RS.seq_ret, RS.seq_exc, ofO_some, asg_name, asg_tup2, wipe_nil, wipe_cons, truth_bl, cont_ref, cont_tup, cont_lst, cont_scr, cont_int, cont_bl, cont_non, cont_str, cont_dct, bin_int, in_add, in_sub, cmp_lt, cmp_le, cmp_gt, cmp_ge, cmp_isnBl, cmp_eqI, cmp_neI, cmp_eqB, cmp_neB, at_0, at_1, at_2, fin_ret, fin_next, fin_keep, fin_exc, clean_int, clean_bl, clean_non, seq_tup, seq_lst, List.getElem?_cons_zero, List.getElem?_cons_succ, List.set_cons_zero, List.set_cons_succ, Option.map_some, List.map_cons, List.map_nil, if_true, if_false, Bool.false_eq_true, Bool.not_true, Bool.not_false, Bool.and_true, Bool.true_and, Bool.false_and, decide_true, decide_false, List.replicate, List.append, List.nil_append, List.cons_append, q1, q2, q3]
theorem c15 (k : Nat) (M : List D) {ls : List Int} (ok : Okl ls) (h1 : 1 ≤ ls.length) (hl : ls.length ≤ 9) {h : Nat} (hh : 1 ≤ h ∧ h ≤ 4) {hi : Int} (hE : hi = (h : Int)) : runF T 0 (k + 5) 15 [lsD ls, .int hi] M = .ok (rowsD (rows ls h)) M := by
  rw [run_eq (T_at 15) rfl]
  have q1 := c11 (T := T) (k + 2) M ok h1 hl (hi := hi) (by omega)
  have q2 := c6 (T := T) k M hl hh hE
  have q3 : clean M (rowsD (rows ls h)) M = .ok (rowsD (rows ls h)) M := clean_self (bel_rows _ _)
  show fin false M (exSs (clOf T 0 (k + 4)) b15 [some (lsD ls), some (.int hi)] M) = _
  generalize lsD ls = d at *
  generalize rowsD (rows ls h) = r at *
  simp only [b15, x_nil, x_cons, x_asg, x_ex, x_ret, x_ite, x_for, x_setI, x_aug, x_raise, e_var, e_lit, e_bin, e_neg, e_cmp, e_chain, e_and, e_or, e_not, e_ite, e_tru, e_tup, e_new, e_call, e_blt, e_mth, e_idx, e_slc, e_rev, p_nil, p_cons, es_nil, es_cons, c_nil, c_cons, n_disp, n_comp, n_comp2, n_listOf, n_listRg, n_sorted, n_dict0, i_seq, i_range, i_enum, i_zip, clOf_call', cl_call, clOf_hi2, clOf_lower2, R.bind_ok, R.bind_exc, R.then_ok, R.then_exc, R.nx_ok, RS.seq_next, RS.seq_ret, RS.seq_exc, ofO_some, asg_name, asg_tup2, wipe_nil, wipe_cons, truth_bl, cont_ref, cont_tup, cont_lst, cont_scr, cont_int, cont_bl, cont_non, cont_str, cont_dct, bin_int, in_add, in_sub, cmp_lt, cmp_le, cmp_gt, cmp_ge, cmp_isnBl, cmp_eqI, cmp_neI, cmp_eqB, cmp_neB, at_0, at_1, at_2, fin_ret, fin_next, fin_keep, fin_exc, clean_int, clean_bl, clean_non, seq_tup, seq_lst, List.getElem?_cons_zero, List.getElem?_cons_succ, List.set_cons_zero, List.set_cons_succ, Option.map_some, List.map_cons, List.map_nil, if_true, if_false, Bool.false_eq_true, Bool.not_true, Bool.not_false, Bool.and_true, Bool.true_and, Bool.false_and, decide_true, decide_false, List.replicate, List.append, List.nil_append, List.cons_append, q1, q2, q3]
theorem c12 (k : Nat) (M : List D) {ls : List Int} (ok : Okl ls) (h1 : 1 ≤ ls.length) (hl : ls.length ≤ 9) : runF T 0 (k + 4) 12 [tsD (ones ls)] M = .ok (.int (hs 1 0 (DD ls))) M := by
  rw [← smith_one]
  exact least (T := T) t12 t3 t10 t9 t0 k M (ones_ok ok) (by rw [ones_len]; exact h1) (by rw [ones_len]; exact hl)
/-! all partings -/
theorem app_run {M : List D} {m : Nat} {a : List D} (h : M[m]? = some (.lst a)) (hl : a.length < lim) (v : D) : mthS M .append (.ref m) [v] = some (.non, M.set m (.lst (a ++ [v]))) := by
  show (match M[m]? with
    | some (.lst l) => if l.length < lim then some (D.non, M.set m (.lst (l ++ [v]))) else none
    | _ => none) = _
  rw [h]
  exact if_pos hl
theorem add_oD (M : List D) (s : List Nat) (x : Int) (j : Nat) (hx : x = (j : Int)) (hs : s.length ≤ 100) : binS M .add (oD s) (.tup [.int x]) = some (oD (s ++ [j])) := by
  have q := add_t M (oL s) (.int x) (by rw [oL_len]; exact hs)
  rw [hx] at q ⊢
  refine q.trans ?_
  show some (D.tup (oL s ++ [.int (j : Int)])) = some (D.tup (oL (s ++ [j])))
  simp [oL]
theorem comp25 (cl : Cl) (M : List D) (x0 x2 x3 x4 x6 x7 x9 x10 : Option D) {h : Nat} {hi : Int} (hE : hi = (h : Int)) (hh : h ≤ 1000) (s : List Nat) (hs : s.length ≤ 100) :
    evN cl (.comp [8] (.bin .add (.var 5) (.tup (.cons (.var 8) .nil))) (.name 8) (.range (.lit (.int 0)) (.var 1)) .nil) [x0, some (.int hi), x2, x3, x4, some (oD s), x6, x7, none, x9, x10] M = .ok (.lst (((List.range h).map fun j => s ++ [j]).map oD)) M := by
  have hr : rgOk 0 hi = true := rg_ok ⟨by omega, by omega⟩
  have hg : rgL 0 hi = oL (List.range h) := rgL_nat hE
  have hi1 := range_run (cl := cl) (L := [x0, some (.int hi), x2, x3, x4, some (oD s), x6, x7, none, x9, x10]) (M := M) (a := .lit (.int 0)) (b := .var 1) (e_lit _ _ _ _) rfl hr
  rw [hg] at hi1
  have hlim : (oL (List.range h)).length ≤ lim := by
    rw [oL_len, List.length_range]
    exact Nat.le_trans hh (by decide)
  have hc := compL_map (w := ⟨oL (List.range h), none⟩) (tg := .name 8) (L := [x0, some (.int hi), x2, x3, x4, some (oD s), x6, x7, none, x9, x10]) (M := M) (cl := cl) (elt := evE cl (.bin .add (.var 5) (.tup (.cons (.var 8) .nil)))) rfl (fun j : Nat => D.int (j : Int)) (fun j => oD (s ++ [j])) (List.range h) (fun j _ => by
    refine ⟨[x0, some (.int hi), x2, x3, x4, some (oD s), x6, x7, some (.int (j : Int)), x9, x10], rfl, ?_⟩
    have q := add_oD M s (j : Int) j rfl hs
    generalize (j : Int) = jj at *
    have z : ([D.int jj]).length ≤ lim := by
      show 1 ≤ lim
      decide
    generalize oD s = sd at *
    simp only [x_nil, x_cons, x_asg, x_ex, x_ret, x_ite, x_for, x_setI, x_aug, x_raise, e_var, e_lit, e_bin, e_neg, e_cmp, e_chain, e_and, e_or, e_not, e_ite, e_tru, e_tup, e_new, e_call, e_blt, e_mth, e_idx, e_slc, e_rev, p_nil, p_cons, es_nil, es_cons, c_nil, c_cons, n_disp, n_comp, n_comp2, n_listOf, n_listRg, n_sorted, n_dict0, i_seq, i_range, i_enum, i_zip, clOf_call', cl_call, clOf_hi2, clOf_lower2, R.bind_ok, R.bind_exc, R.then_ok, R.then_exc, R.nx_ok, RS.seq_next, RS.seq_ret, RS.seq_exc, ofO_some, asg_name, asg_tup2, wipe_nil, wipe_cons, truth_bl, cont_ref, cont_tup, cont_lst, cont_scr, cont_int, cont_bl, cont_non, cont_str, cont_dct, bin_int, in_add, in_sub, cmp_lt, cmp_le, cmp_gt, cmp_ge, cmp_isnBl, cmp_eqI, cmp_neI, cmp_eqB, cmp_neB, at_0, at_1, at_2, fin_ret, fin_next, fin_keep, fin_exc, clean_int, clean_bl, clean_non, seq_tup, seq_lst, List.getElem?_cons_zero, List.getElem?_cons_succ, List.set_cons_zero, List.set_cons_succ, Option.map_some, List.map_cons, List.map_nil, if_true, if_false, Bool.false_eq_true, Bool.not_true, Bool.not_false, Bool.and_true, Bool.true_and, Bool.false_and, decide_true, decide_false, List.replicate, List.append, List.nil_append, List.cons_append, z, q])
  rw [n_comp, hi1, R.bind_ok, if_pos hlim]
  show ((compL _ _ [x0, some (.int hi), x2, x3, x4, some (oD s), x6, x7, none, x9, x10] _ _ ((List.range h).map fun j : Nat => D.int (j : Int)) M).nx).bind _ = _
  rw [hc, List.map_map]
  rfl
def stp (h : Nat) (s : List Nat) : List (List Nat) := (List.range h).map fun j => s ++ [j]
theorem l25_0 (cl : Cl) (M : List D) (x0 x2 x3 x4 x7 x9 x10 : Option D) {h : Nat} {hi : Int} (hE : hi = (h : Int)) (hh : h ≤ 1000) (w : List D) : ∀ (ss : List (List Nat)) (acc : List (List Nat)) (x5 x8 : Option D), (∀ s ∈ ss, s.length ≤ 100) → acc.length + (ss.flatMap (stp h)).length ≤ lim →
    ∃ y5 y8, forL ⟨w, none⟩ (.name 5) (exSs cl b25_0) (ss.map oD) [x0, some (.int hi), x2, x3, x4, x5, some (.ref M.length), x7, x8, x9, x10] (M ++ [.lst (acc.map oD)]) =
      .next [x0, some (.int hi), x2, x3, x4, y5, some (.ref M.length), x7, y8, x9, x10] (M ++ [.lst ((acc ++ ss.flatMap (stp h)).map oD)])
  | [], acc, x5, x8, _, _ => ⟨x5, x8, by
    rw [List.map_nil, forL_nil rfl]
    simp⟩
  | s :: ss, acc, x5, x8, hs, hl => by
    rw [List.flatMap_cons, List.length_append] at hl
    obtain ⟨y5, y8, ih⟩ := l25_0 cl M x0 x2 x3 x4 x7 x9 x10 hE hh w ss (acc ++ stp h s) (some (oD s)) x8 (fun t ht => hs t (List.mem_cons_of_mem _ ht)) (by rw [List.length_append]; omega)
    refine ⟨y5, y8, ?_⟩
    have hn := comp25 cl (M ++ [.lst (acc.map oD)]) x0 x2 x3 x4 (some (.ref M.length)) x7 x9 x10 hE hh s (hs s List.mem_cons_self)
    have e1 := mthK_ref (last_at M (.lst (acc.map oD)))
    have e2 := ext_run (b := (stp h s).map oD) (last_at M (.lst (acc.map oD))) (by rw [List.length_map, List.length_map]; omega)
    rw [last_set, ← List.map_append] at e2
    have st : exSs cl b25_0 [x0, some (.int hi), x2, x3, x4, some (oD s), some (.ref M.length), x7, x8, x9, x10] (M ++ [.lst (acc.map oD)]) = .next [x0, some (.int hi), x2, x3, x4, some (oD s), some (.ref M.length), x7, x8, x9, x10] (M ++ [.lst ((acc ++ stp h s).map oD)]) := by
      have hn' : evN cl (.comp [8] (.bin .add (.var 5) (.tup (.cons (.var 8) .nil))) (.name 8) (.range (.lit (.int 0)) (.var 1)) .nil) [x0, some (.int hi), x2, x3, x4, some (oD s), some (.ref M.length), x7, x8, x9, x10] (M ++ [.lst (acc.map oD)]) = .ok (.lst ((stp h s).map oD)) (M ++ [.lst (acc.map oD)]) := hn
      generalize M ++ [D.lst (acc.map oD)] = M1 at *
      generalize M ++ [D.lst ((acc ++ stp h s).map oD)] = M2 at *
      generalize (stp h s).map oD = sl at *
      generalize oD s = sd at *
      unfold b25_0
      rw [x_cons, x_ex, e_mth]
      simp only [e_var, List.getElem?_cons_succ, List.getElem?_cons_zero, R.bind_ok, e1, if_true, es_cons, e_new, hn', es_nil, e2, R.then_ok, RS.seq_next, x_nil]
    rw [List.map_cons]
    refine (forL_cons rfl rfl st).trans (ih.trans ?_)
    rw [List.flatMap_cons, List.append_assoc]
theorem stn_small {h t : Nat} (hh : h ≤ 3) (ht : t ≤ 5) : (stn h t).length ≤ 243 := by
  rw [stn_len]
  exact Nat.le_trans (Nat.pow_le_pow_left hh t) (Nat.pow_le_pow_right (by decide) ht)
theorem stn_flat (h t : Nat) : (stn h t).flatMap (stp h) = stn h (t + 1) := rfl
theorem st25_1 (cl : Cl) (M : List D) (x0 x3 x4 x7 x9 x10 : Option D) {h : Nat} {hi : Int} (hE : hi = (h : Int)) (hh : h ≤ 3) {t : Nat} (ht : t + 1 ≤ 5) (x5 x6 x8 : Option D) :
    ∃ y5 y6 y8, exSs cl b25_1 [x0, some (.int hi), some (.lst ((stn h t).map oD)), x3, x4, x5, x6, x7, x8, x9, x10] M = .next [x0, some (.int hi), some (.lst ((stn h (t + 1)).map oD)), x3, x4, y5, y6, x7, y8, x9, x10] (M ++ [.lst ((stn h (t + 1)).map oD)]) := by
  have hb := stn_small hh ht
  obtain ⟨y5, y8, q⟩ := l25_0 cl M x0 (some (.lst ((stn h t).map oD))) x3 x4 x7 x9 x10 hE (by omega) ((stn h t).map oD) (stn h t) [] x5 x8 (fun s hs => by
    have := ((stn_mem h t s).mp hs).1
    omega) (by rw [stn_flat, List.length_nil, Nat.zero_add]; exact Nat.le_trans hb (by decide))
  rw [stn_flat, List.nil_append, List.map_nil] at q
  refine ⟨y5, some (.ref M.length), y8, ?_⟩
  have hc : cont (M ++ [.lst ((stn h (t + 1)).map oD)]) (.ref M.length) = some (.lst ((stn h (t + 1)).map oD)) := last_at _ _
  generalize (stn h (t + 1)).map oD = s2 at *
  generalize hs1 : (stn h t).map oD = s1 at *
  unfold b25_1
  rw [seq_next (L1 := [x0, some (.int hi), some (.lst s1), x3, x4, x5, some (.ref M.length), x7, x8, x9, x10]) (M1 := M ++ [.lst []]) rfl]
  rw [seq_next (L1 := [x0, some (.int hi), some (.lst s1), x3, x4, y5, some (.ref M.length), x7, y8, x9, x10]) (M1 := M ++ [.lst s2]) (by
    rw [x_for]
    have e : evI cl (.seq (.var 2)) [x0, some (.int hi), some (.lst s1), x3, x4, x5, some (.ref M.length), x7, x8, x9, x10] (M ++ [.lst []]) = .ok ⟨s1, none⟩ (M ++ [.lst []]) := rfl
    rw [e]
    exact q)]
  generalize M ++ [D.lst s2] = M2 at *
  rw [x_cons, x_asg, e_new, n_listOf, e_var]
  show (RS.seq (R.then _ (R.bind (R.bind (R.ok (D.ref M.length) M2) _) _) _) _) = _
  rw [R.bind_ok]
  simp only [hc, R.bind_ok, if_true, R.then_ok, asg_name, RS.seq_next, x_nil, List.set_cons_succ, List.set_cons_zero]
theorem l25_1 (cl : Cl) (x0 x4 x7 x9 x10 : Option D) {h : Nat} {hi : Int} (hE : hi = (h : Int)) (hh : h ≤ 3) (w : List D) : ∀ (ls : List Int) (t : Nat) (M : List D) (x3 x5 x6 x8 : Option D), t + ls.length ≤ 5 →
    ∃ y3 y5 y6 y8 R, forL ⟨w, none⟩ (.name 3) (exSs cl b25_1) (ls.map .int) [x0, some (.int hi), some (.lst ((stn h t).map oD)), x3, x4, x5, x6, x7, x8, x9, x10] M = .next [x0, some (.int hi), some (.lst ((stn h (t + ls.length)).map oD)), y3, x4, y5, y6, x7, y8, x9, x10] (M ++ R)
  | [], t, M, x3, x5, x6, x8, _ => ⟨x3, x5, x6, x8, [], by
    rw [List.map_nil, forL_nil rfl, List.append_nil]
    rfl⟩
  | l :: ls, t, M, x3, x5, x6, x8, ht => by
    rw [List.length_cons] at ht
    obtain ⟨z5, z6, z8, q⟩ := st25_1 cl M x0 (some (.int l)) x4 x7 x9 x10 hE hh (t := t) (by omega) x5 x6 x8
    obtain ⟨y3, y5, y6, y8, R, ih⟩ := l25_1 cl x0 x4 x7 x9 x10 hE hh w ls (t + 1) (M ++ [.lst ((stn h (t + 1)).map oD)]) (some (.int l)) z5 z6 z8 (by omega)
    refine ⟨y3, y5, y6, y8, [.lst ((stn h (t + 1)).map oD)] ++ R, ?_⟩
    rw [List.map_cons]
    refine (forL_cons rfl rfl q).trans (ih.trans ?_)
    rw [List.append_assoc, List.length_cons]
    have e : t + 1 + ls.length = t + (ls.length + 1) := by omega
    rw [e]
end K77
namespace K77
open MP Z76 Z77 EW
variable {T : List FD} [Tb T]
abbrev lD (r : List Nat) : D := .lst (oL r)
theorem idx_oD {M : List D} {s : List Nat} {i : Nat} (h : i < s.length) : idxS M (oD s) (.int (i : Int)) = some (.int ((st s i : Nat) : Int)) := by
  refine L2.atI_nat ?_
  show (s.map fun i : Nat => D.int (i : Int))[i]? = _
  rw [List.getElem?_map, List.getElem?_eq_getElem h]
  unfold st
  rw [List.getD_eq_getElem?_getD, List.getElem?_eq_getElem h]
  rfl
theorem own_run (cl : Cl) (M : List D) {ls : List Int} (hl : ls.length ≤ 9) {s : List Nat} (hs : s.length = ls.length) (j : Nat) (x1 x2 x3 x4 x6 x7 x9 : Option D) :
    evN cl (.comp [10] (.var 10) (.name 10) (.range (.lit (.int 0)) (.blt .len (.cons (.var 0) .nil))) (.cons (.cmp .eq (.idx (.var 5) (.var 10)) (.var 8)) .nil)) [some (lsD ls), x1, x2, x3, x4, some (oD s), x6, x7, some (.int (j : Int)), x9, none] M = .ok (.lst (oL (own ls s j))) M := by
  have hr : rgOk 0 (ls.length : Nat) = true := rg_ok ⟨by omega, by omega⟩
  have hn : evE cl (.blt .len (.cons (.var 0) .nil)) [some (lsD ls), x1, x2, x3, x4, some (oD s), x6, x7, some (.int (j : Int)), x9, none] M = .ok (.int (ls.length : Nat)) M := by
    have q := len_ls ls M
    generalize lsD ls = d at *
    generalize ((ls.length : Nat) : Int) = n at *
    simp only [x_nil, x_cons, x_asg, x_ex, x_ret, x_ite, x_for, x_setI, x_aug, x_raise, e_var, e_lit, e_bin, e_neg, e_cmp, e_chain, e_and, e_or, e_not, e_ite, e_tru, e_tup, e_new, e_call, e_blt, e_mth, e_idx, e_slc, e_rev, p_nil, p_cons, es_nil, es_cons, c_nil, c_cons, n_disp, n_comp, n_comp2, n_listOf, n_listRg, n_sorted, n_dict0, i_seq, i_range, i_enum, i_zip, clOf_call', cl_call, clOf_hi2, clOf_lower2, R.bind_ok, R.bind_exc, R.then_ok, R.then_exc, R.nx_ok, RS.seq_next, RS.seq_ret, RS.seq_exc, ofO_some, asg_name, asg_tup2, wipe_nil, wipe_cons, truth_bl, cont_ref, cont_tup, cont_lst, cont_scr, cont_int, cont_bl, cont_non, cont_str, cont_dct, bin_int, in_add, in_sub, cmp_lt, cmp_le, cmp_gt, cmp_ge, cmp_isnBl, cmp_eqI, cmp_neI, cmp_eqB, cmp_neB, at_0, at_1, at_2, fin_ret, fin_next, fin_keep, fin_exc, clean_int, clean_bl, clean_non, seq_tup, seq_lst, List.getElem?_cons_zero, List.getElem?_cons_succ, List.set_cons_zero, List.set_cons_succ, Option.map_some, List.map_cons, List.map_nil, if_true, if_false, Bool.false_eq_true, Bool.not_true, Bool.not_false, Bool.and_true, Bool.true_and, Bool.false_and, decide_true, decide_false, List.replicate, List.append, List.nil_append, List.cons_append, q]
  have hi1 := range_run (cl := cl) (a := .lit (.int 0)) (e_lit _ _ _ _) hn hr
  rw [oL_rg] at hi1
  have hlim : (oL (List.range ls.length)).length ≤ lim := by
    rw [oL_len, List.length_range]
    exact Nat.le_trans hl (by decide)
  have hc := compL_pure (w := ⟨oL (List.range ls.length), none⟩) (tg := .name 10) (L := [some (lsD ls), x1, x2, x3, x4, some (oD s), x6, x7, some (.int (j : Int)), x9, none]) (M := M) (cnd := evC cl (.cons (.cmp .eq (.idx (.var 5) (.var 10)) (.var 8)) .nil)) (elt := evE cl (.var 10))
    rfl (fun i : Nat => D.int (i : Int)) (fun i => decide (st s i = j)) (fun i : Nat => D.int (i : Int)) (List.range ls.length) (fun i hi => by
      refine ⟨[some (lsD ls), x1, x2, x3, x4, some (oD s), x6, x7, some (.int (j : Int)), x9, some (.int (i : Int))], rfl, ?_, fun _ => rfl⟩
      have q := idx_oD (M := M) (s := s) (i := i) (by rw [hs]; exact List.mem_range.mp hi)
      have e : decide (((st s i : Nat) : Int) = (j : Int)) = decide (st s i = j) := by
        by_cases z : st s i = j
        · rw [z]
          simp
        · rw [decide_eq_false z, decide_eq_false (by omega)]
      rw [← e]
      generalize ((st s i : Nat) : Int) = a at *
      generalize (j : Int) = b at *
      generalize (i : Int) = c at *
      generalize oD s = sd at *
      generalize lsD ls = d at *
      simp only [x_nil, x_cons, x_asg, x_ex, x_ret, x_ite, x_for, x_setI, x_aug, x_raise, e_var, e_lit, e_bin, e_neg, e_cmp, e_chain, e_and, e_or, e_not, e_ite, e_tru, e_tup, e_new, e_call, e_blt, e_mth, e_idx, e_slc, e_rev, p_nil, p_cons, es_nil, es_cons, c_nil, c_cons, n_disp, n_comp, n_comp2, n_listOf, n_listRg, n_sorted, n_dict0, i_seq, i_range, i_enum, i_zip, clOf_call', cl_call, clOf_hi2, clOf_lower2, R.bind_ok, R.bind_exc, R.then_ok, R.then_exc, R.nx_ok, RS.seq_next, RS.seq_ret, RS.seq_exc, ofO_some, asg_name, asg_tup2, wipe_nil, wipe_cons, truth_bl, cont_ref, cont_tup, cont_lst, cont_scr, cont_int, cont_bl, cont_non, cont_str, cont_dct, bin_int, in_add, in_sub, cmp_lt, cmp_le, cmp_gt, cmp_ge, cmp_isnBl, cmp_eqI, cmp_neI, cmp_eqB, cmp_neB, at_0, at_1, at_2, fin_ret, fin_next, fin_keep, fin_exc, clean_int, clean_bl, clean_non, seq_tup, seq_lst, List.getElem?_cons_zero, List.getElem?_cons_succ, List.set_cons_zero, List.set_cons_succ, Option.map_some, List.map_cons, List.map_nil, if_true, if_false, Bool.false_eq_true, Bool.not_true, Bool.not_false, Bool.and_true, Bool.true_and, Bool.false_and, decide_true, decide_false, List.replicate, List.append, List.nil_append, List.cons_append, q])
  rw [n_comp, hi1, R.bind_ok, if_pos hlim]
  show ((compL _ _ [some (lsD ls), x1, x2, x3, x4, some (oD s), x6, x7, some (.int (j : Int)), x9, none] _ _ ((List.range ls.length).map fun i : Nat => D.int (i : Int)) M).nx).bind _ = _
  rw [hc]
  rfl
theorem sort_own (k : Nat) (M : List D) {ls : List Int} (hl : ls.length ≤ 9) (s : List Nat) (j : Nat) (x1 x2 x3 x4 x5 x6 x7 x8 x10 : Option D) :
    evN (clOf T 0 (k + 2)) (.sortK (.seq (.var 9)) 10 (.idx (.var 0) (.var 10))) [some (lsD ls), x1, x2, x3, x4, x5, x6, x7, x8, some (.lst (oL (own ls s j))), x10] M = .ok (lD (ownS ls s j)) M := by
  have hmem : ∀ i ∈ own ls s j, i < ls.length := fun i hi => List.mem_range.mp (List.mem_filter.mp hi).1
  have hlen : (own ls s j).length ≤ 9 := Nat.le_trans (Nat.le_trans (List.length_filter_le _ _) (by rw [List.length_range]; exact Nat.le_refl _)) hl
  refine sortK_run (w := ⟨oL (own ls s j), none⟩) (M1 := M) (ks := (own ls s j).map fun i => .int (ln ls i)) rfl ?_ ?_ ?_
  · rw [oL_len]
    exact Nat.le_trans hlen (by decide)
  · refine mapE_map _ _ _ fun i hi => ?_
    have q := idx_ls (M := M) (hmem i hi)
    show evE _ _ [some (lsD ls), x1, x2, x3, x4, x5, x6, x7, x8, some (.lst (oL (own ls s j))), some (.int (i : Int))] M = _
    generalize (i : Int) = c at *
    generalize lsD ls = d at *
    simp only [x_nil, x_cons, x_asg, x_ex, x_ret, x_ite, x_for, x_setI, x_aug, x_raise, e_var, e_lit, e_bin, e_neg, e_cmp, e_chain, e_and, e_or, e_not, e_ite, e_tru, e_tup, e_new, e_call, e_blt, e_mth, e_idx, e_slc, e_rev, p_nil, p_cons, es_nil, es_cons, c_nil, c_cons, n_disp, n_comp, n_comp2, n_listOf, n_listRg, n_sorted, n_dict0, i_seq, i_range, i_enum, i_zip, clOf_call', cl_call, clOf_hi2, clOf_lower2, R.bind_ok, R.bind_exc, R.then_ok, R.then_exc, R.nx_ok, RS.seq_next, RS.seq_ret, RS.seq_exc, ofO_some, asg_name, asg_tup2, wipe_nil, wipe_cons, truth_bl, cont_ref, cont_tup, cont_lst, cont_scr, cont_int, cont_bl, cont_non, cont_str, cont_dct, bin_int, in_add, in_sub, cmp_lt, cmp_le, cmp_gt, cmp_ge, cmp_isnBl, cmp_eqI, cmp_neI, cmp_eqB, cmp_neB, at_0, at_1, at_2, fin_ret, fin_next, fin_keep, fin_exc, clean_int, clean_bl, clean_non, seq_tup, seq_lst, List.getElem?_cons_zero, List.getElem?_cons_succ, List.set_cons_zero, List.set_cons_succ, Option.map_some, List.map_cons, List.map_nil, if_true, if_false, Bool.false_eq_true, Bool.not_true, Bool.not_false, Bool.and_true, Bool.true_and, Bool.false_and, decide_true, decide_false, List.replicate, List.append, List.nil_append, List.cons_append, q]
  · have q := sortD_map (fun i : Nat => D.int (i : Int)) (fun i : Nat => D.int (ln ls i)) (fun i => .int (ln ls i)) (own ls s j) (fun i _ => rfl) (keysOk_ints _ _) (Nat.le_trans hlen (by decide))
    rw [PySem.W.dataLe_int (fun i : Nat => ln ls i)] at q
    exact q
theorem st25_2 (k : Nat) (M : List D) {ls : List Int} (hl : ls.length ≤ 9) {s : List Nat} (hs : s.length = ls.length) (j : Nat) (racc : List D) (hra : racc.length < 1000) (x1 x2 x3 x4 x6 x9 x10 : Option D) :
    ∃ y9, exSs (clOf T 0 (k + 2)) b25_2 [some (lsD ls), x1, x2, x3, x4, some (oD s), x6, some (.ref M.length), some (.int (j : Int)), x9, x10] (M ++ [.lst racc]) =
      .next [some (lsD ls), x1, x2, x3, x4, some (oD s), x6, some (.ref M.length), some (.int (j : Int)), y9, x10] (M ++ [.lst (racc ++ [lD (ownS ls s j)])]) := by
  refine ⟨some (.lst (oL (own ls s j))), ?_⟩
  have q1 := own_run (clOf T 0 (k + 2)) (M ++ [.lst racc]) hl hs j x1 x2 x3 x4 x6 (some (.ref M.length)) x9
  have q2 := sort_own (T := T) k (M ++ [.lst racc]) hl s j x1 x2 x3 x4 (some (oD s)) x6 (some (.ref M.length)) (some (.int (j : Int))) x10
  have e1 := mthK_ref (last_at M (.lst racc))
  have e2 := app_run (last_at M (.lst racc)) (Nat.lt_of_lt_of_le hra (by decide)) (lD (ownS ls s j))
  rw [last_set] at e2
  unfold b25_2
  generalize M ++ [D.lst racc] = M1 at *
  generalize M ++ [D.lst (racc ++ [lD (ownS ls s j)])] = M2 at *
  generalize lD (ownS ls s j) = od at *
  generalize oL (own ls s j) = ol at *
  generalize oD s = sd at *
  generalize lsD ls = d at *
  generalize (j : Int) = jj at *
  have s1 : exS (clOf T 0 (k + 2)) (.asg (.name 9) (.new true (.comp [10] (.var 10) (.name 10) (.range (.lit (.int 0)) (.blt .len (.cons (.var 0) .nil))) (.cons (.cmp .eq (.idx (.var 5) (.var 10)) (.var 8)) .nil)))) [some d, x1, x2, x3, x4, some sd, x6, some (.ref M.length), some (.int jj), x9, x10] M1 = .next [some d, x1, x2, x3, x4, some sd, x6, some (.ref M.length), some (.int jj), some (.lst ol), x10] M1 := by
    have q1' : evN (clOf T 0 (k + 2)) (.comp [10] (.var 10) (.name 10) (.range (.lit (.int 0)) (.blt .len (.cons (.var 0) .nil))) (.cons (.cmp .eq (.idx (.var 5) (.var 10)) (.var 8)) .nil)) [some d, x1, x2, x3, x4, some sd, x6, some (.ref M.length), some (.int jj), x9, x10] M1 = .ok (.lst ol) M1 := q1
    rw [x_asg, e_new, q1']
    rfl
  rw [seq_next s1, x_cons, x_ex, e_mth]
  simp only [e_var, List.getElem?_cons_succ, List.getElem?_cons_zero, R.bind_ok, e1, if_true, es_cons, e_new, q2, es_nil, e2, R.then_ok, RS.seq_next, x_nil]
theorem l25_2 (k : Nat) (M : List D) {ls : List Int} (hl : ls.length ≤ 9) {s : List Nat} (hs : s.length = ls.length) (w : List D) (x1 x2 x3 x4 x6 x10 : Option D) : ∀ (js : List Nat) (racc : List (List Nat)) (x8 x9 : Option D), racc.length + js.length ≤ 100 →
    ∃ y8 y9, forL ⟨w, none⟩ (.name 8) (exSs (clOf T 0 (k + 2)) b25_2) (oL js) [some (lsD ls), x1, x2, x3, x4, some (oD s), x6, some (.ref M.length), x8, x9, x10] (M ++ [.lst (racc.map lD)]) =
      .next [some (lsD ls), x1, x2, x3, x4, some (oD s), x6, some (.ref M.length), y8, y9, x10] (M ++ [.lst ((racc ++ js.map (ownS ls s)).map lD)])
  | [], racc, x8, x9, _ => ⟨x8, x9, by
    rw [show oL [] = [] from rfl, forL_nil rfl]
    simp⟩
  | j :: js, racc, x8, x9, h => by
    rw [List.length_cons] at h
    obtain ⟨z9, q⟩ := st25_2 (T := T) k M hl hs j (racc.map lD) (by rw [List.length_map]; omega) x1 x2 x3 x4 x6 x9 x10
    obtain ⟨y8, y9, ih⟩ := l25_2 k M hl hs w x1 x2 x3 x4 x6 x10 js (racc ++ [ownS ls s j]) (some (.int (j : Int))) z9 (by rw [List.length_append]; simp; omega)
    refine ⟨y8, y9, ?_⟩
    rw [List.map_append] at ih
    refine (forL_cons rfl rfl q).trans (ih.trans ?_)
    rw [List.append_assoc]
    rfl
theorem costs_LS (ls : List Int) (h : Nat) (s : List Nat) : costs ls ((List.range h).map (ownS ls s)) = LS ls h s := by
  unfold costs LS sumH
  rw [List.map_map]
  rfl
theorem ownS_lt {ls : List Int} {s : List Nat} {j i : Nat} (h : i ∈ ownS ls s j) : i < ls.length := by
  have h1 := (List.mergeSort_perm _ _).mem_iff.mp h
  exact List.mem_range.mp (List.mem_filter.mp h1).1
theorem st25_3 (k : Nat) (M : List D) {ls : List Int} (hl : ls.length ≤ 9) {s : List Nat} (hs : s.length = ls.length) {h : Nat} (hh : h ≤ 4) {hi : Int} (hE : hi = (h : Int)) {a4 : Nat} {acc : List D} (h4 : M[a4]? = some (.lst acc)) (hacc : acc.length < 1000) (x2 x3 x6 x7 x8 x9 x10 : Option D) :
    ∃ y7 y8 y9 z, exSs (clOf T 0 (k + 2)) b25_3 [some (lsD ls), some (.int hi), x2, x3, some (.ref a4), some (oD s), x6, x7, x8, x9, x10] M =
      .next [some (lsD ls), some (.int hi), x2, x3, some (.ref a4), some (oD s), x6, y7, y8, y9, x10] (M.set a4 (.lst (acc ++ [.int (LS ls h s)])) ++ [z]) := by
  have hr : rgOk 0 hi = true := rg_ok ⟨by omega, by omega⟩
  have hg : rgL 0 hi = oL (List.range h) := rgL_nat hE
  obtain ⟨y8, y9, q⟩ := l25_2 (T := T) k M hl hs (oL (List.range h)) (some (.int hi)) x2 x3 (some (.ref a4)) x6 x10 (List.range h) [] x8 x9 (by rw [List.length_range]; simp; omega)
  rw [List.nil_append, List.map_nil] at q
  refine ⟨some (.ref M.length), y8, y9, .lst (((List.range h).map (ownS ls s)).map lD), ?_⟩
  have ha : a4 < M.length := (List.getElem?_eq_some_iff.mp h4).1
  have hlast := last_at M (.lst (((List.range h).map (ownS ls s)).map lD))
  have h4' : (M ++ [D.lst (((List.range h).map (ownS ls s)).map lD)])[a4]? = some (.lst acc) := by
    rw [List.getElem?_append_left ha]
    exact h4
  have e1 := mthK_ref h4'
  have e2 := app_run h4' (Nat.lt_of_lt_of_le hacc (by decide)) (.int (LS ls h s))
  rw [List.set_append_left _ _ ha] at e2
  have q24 := c24 (T := T) (k + 1) (M := M ++ [D.lst (((List.range h).map (ownS ls s)).map lD)]) (ls := ls) (rv := .ref M.length) (wk := ⟨((List.range h).map (ownS ls s)).map lD, some M.length⟩) (by
    show (match (M ++ [D.lst (((List.range h).map (ownS ls s)).map lD)])[M.length]? with | some (.lst l) => some (Wk.mk l (some M.length)) | _ => none) = _
    rw [hlast]) (by
    show (match (M ++ [D.lst (((List.range h).map (ownS ls s)).map lD)])[M.length]? with | some (.lst l) => bqs l (((List.range h).map (ownS ls s)).map lD) | _ => false) = true
    rw [hlast]
    exact bqs_self _) lD (fun r => rfl) (rs := (List.range h).map (ownS ls s)) rfl (fun r hr' i hi' => by
      obtain ⟨j, _, rfl⟩ := List.mem_map.mp hr'
      exact ownS_lt hi')
  rw [costs_LS] at q24
  have hi1 := range_run (cl := clOf T 0 (k + 2)) (L := [some (lsD ls), some (.int hi), x2, x3, some (.ref a4), some (oD s), x6, some (.ref M.length), x8, x9, x10]) (M := M ++ [.lst []]) (a := .lit (.int 0)) (b := .var 1) (e_lit _ _ _ _) rfl hr
  rw [hg] at hi1
  unfold b25_3
  rw [seq_next (L1 := [some (lsD ls), some (.int hi), x2, x3, some (.ref a4), some (oD s), x6, some (.ref M.length), x8, x9, x10]) (M1 := M ++ [.lst []]) rfl]
  rw [seq_next (L1 := [some (lsD ls), some (.int hi), x2, x3, some (.ref a4), some (oD s), x6, some (.ref M.length), y8, y9, x10]) (M1 := M ++ [.lst (((List.range h).map (ownS ls s)).map lD)]) (by
    rw [x_for, hi1]
    exact q)]
  generalize M ++ [D.lst (((List.range h).map (ownS ls s)).map lD)] = M1 at *
  generalize M.set a4 (.lst (acc ++ [.int (LS ls h s)])) ++ [D.lst (((List.range h).map (ownS ls s)).map lD)] = M2 at *
  generalize oD s = sd at *
  generalize lsD ls = d at *
  rw [x_cons, x_ex, e_mth]
  simp only [e_var, List.getElem?_cons_succ, List.getElem?_cons_zero, R.bind_ok, e1, if_true, es_cons, e_call, clOf_call', q24, es_nil, e2, R.then_ok, RS.seq_next, x_nil]
theorem l25_3 (k : Nat) {ls : List Int} (hl : ls.length ≤ 9) {h : Nat} (hh : h ≤ 4) {hi : Int} (hE : hi = (h : Int)) {a4 : Nat} (M0 : List D) (hM0 : M0.length ≤ a4) (w : List D) (x2 x3 x6 x10 : Option D) : ∀ (ss : List (List Nat)) (acc : List Int) (M : List D) (x5 x7 x8 x9 : Option D), (∀ s ∈ ss, s.length = ls.length) → (∃ R, M = M0 ++ R) → M[a4]? = some (.lst (acc.map .int)) → acc.length + ss.length ≤ 500 →
    ∃ y5 y7 y8 y9 M', forL ⟨w, none⟩ (.name 5) (exSs (clOf T 0 (k + 2)) b25_3) (ss.map oD) [some (lsD ls), some (.int hi), x2, x3, some (.ref a4), x5, x6, x7, x8, x9, x10] M =
      .next [some (lsD ls), some (.int hi), x2, x3, some (.ref a4), y5, x6, y7, y8, y9, x10] M' ∧ (∃ R, M' = M0 ++ R) ∧ M'[a4]? = some (.lst ((acc ++ ss.map (LS ls h)).map .int))
  | [], acc, M, x5, x7, x8, x9, _, hR, h4, _ => ⟨x5, x7, x8, x9, M, by rw [List.map_nil, forL_nil rfl], hR, by simpa using h4⟩
  | s :: ss, acc, M, x5, x7, x8, x9, hs, hR, h4, hl2 => by
    rw [List.length_cons] at hl2
    obtain ⟨z7, z8, z9, z, q⟩ := st25_3 (T := T) k M hl (hs s List.mem_cons_self) hh hE h4 (by rw [List.length_map]; omega) x2 x3 x6 x7 x8 x9 x10
    have ha : a4 < M.length := (List.getElem?_eq_some_iff.mp h4).1
    obtain ⟨R, rfl⟩ := hR
    have e : ((M0 ++ R).set a4 (.lst (acc.map .int ++ [.int (LS ls h s)])) ++ [z]) = M0 ++ (R.set (a4 - M0.length) (.lst (acc.map .int ++ [.int (LS ls h s)])) ++ [z]) := by
      rw [List.set_append_right _ _ hM0, List.append_assoc]
    obtain ⟨y5, y7, y8, y9, M', ih, h1, h2⟩ := l25_3 k hl hh hE M0 hM0 w x2 x3 x6 x10 ss (acc ++ [LS ls h s]) _ (some (oD s)) z7 z8 z9 (fun t ht => hs t (List.mem_cons_of_mem _ ht)) ⟨_, e⟩ (by
      rw [List.getElem?_append_left (by rw [List.length_set]; exact ha), List.getElem?_set_self ha, List.map_append]
      rfl) (by rw [List.length_append]; simp; omega)
    refine ⟨y5, y7, y8, y9, M', (forL_cons rfl rfl q).trans ih, h1, ?_⟩
    rw [h2, List.append_assoc]
    rfl
theorem min_LS {ls : List Int} (ok : Okl ls) (hl : ls.length ≤ 5) {h : Nat} (hh : 1 ≤ h ∧ h ≤ 3) (M : List D) {a : Nat} (hM : M[a]? = some (.lst (((stn h ls.length).map (LS ls h)).map .int))) : bltS M .min [.ref a] = some (.int (hs h 0 (DD ls))) := by
  show (((match M[a]? with | some (.lst l) => some l | _ => none).bind allInts).bind fun l => match l with | [] => none | i :: r => some (D.int (leastI i r))) = _
  rw [hM]
  show ((allInts (((stn h ls.length).map (LS ls h)).map D.int)).bind _) = _
  rw [allInts_map, Option.bind_some]
  obtain ⟨s, hs', e⟩ := LS_there (ls := ls) hl hh
  have hmem : hs h 0 (DD ls) ∈ (stn h ls.length).map (LS ls h) := List.mem_map.mpr ⟨s, hs', e⟩
  have hle : ∀ y ∈ (stn h ls.length).map (LS ls h), hs h 0 (DD ls) ≤ y := fun y hy => by
    obtain ⟨s', hs2, rfl⟩ := List.mem_map.mp hy
    exact LS_lower ok hl hh hs2
  cases hS : (stn h ls.length).map (LS ls h) with
  | nil =>
    rw [hS] at hmem
    cases hmem
  | cons i r =>
    haveI : TabC := ⟨[]⟩
    obtain ⟨h1, h2⟩ := leastI_mem r i
    rw [hS] at hmem hle
    have : leastI i r = hs h 0 (DD ls) := Int.le_antisymm (h2 _ hmem) (hle _ h1)
    show some (D.int (leastI i r)) = _
    rw [this]
theorem c25 (k : Nat) (M : List D) {ls : List Int} (ok : Okl ls) (hl : ls.length ≤ 5) {h : Nat} (hh : 1 ≤ h ∧ h ≤ 3) {hi : Int} (hE : hi = (h : Int)) : runF T 0 (k + 3) 25 [lsD ls, .int hi] M = .ok (.int (hs h 0 (DD ls))) M := by
  rw [run_eq (T_at 25) rfl]
  show fin false M (exSs (clOf T 0 (k + 2)) b25 [some (lsD ls), some (.int hi), none, none, none, none, none, none, none, none, none] M) = _
  obtain ⟨y3, y5, y6, y8, R1, q1⟩ := l25_1 (clOf T 0 (k + 2)) (some (lsD ls)) none none none none hE hh.2 (ls.map .int) ls 0 M none none none none (by omega)
  rw [Nat.zero_add] at q1
  have h4 : ((M ++ R1) ++ [D.lst []])[(M ++ R1).length]? = some (.lst (([] : List Int).map .int)) := last_at _ _
  obtain ⟨z5, z7, z8, z9, M', q2, ⟨R2, e2⟩, h5⟩ := l25_3 (T := T) k (ls := ls) (by omega) (h := h) (by omega) hE (a4 := (M ++ R1).length) M (by simp) ((stn h ls.length).map oD) (some (.lst ((stn h ls.length).map oD))) y3 y6 none (stn h ls.length) [] ((M ++ R1) ++ [D.lst []]) y5 none y8 none (fun s hs' => ((stn_mem h _ s).mp hs').1) ⟨R1 ++ [D.lst []], by rw [List.append_assoc]⟩ h4 (by
      have := stn_small hh.2 hl
      simp
      omega)
  rw [List.nil_append] at h5
  have q3 := min_LS ok hl hh M' h5
  have hcl : clean M (.int (hs h 0 (DD ls))) M' = .ok (.int (hs h 0 (DD ls))) M := by
    rw [e2]
    exact clean_rest rfl
  have e0 : stn h 0 = [[]] := rfl
  unfold b25
  rw [seq_next (L1 := [some (lsD ls), some (.int hi), some (.lst ((stn h 0).map oD)), none, none, none, none, none, none, none, none]) (M1 := M) rfl]
  rw [seq_next (L1 := [some (lsD ls), some (.int hi), some (.lst ((stn h ls.length).map oD)), y3, none, y5, y6, none, y8, none, none]) (M1 := M ++ R1) (by
    rw [x_for]
    have e : evI (clOf T 0 (k + 2)) (.seq (.var 0)) [some (lsD ls), some (.int hi), some (.lst ((stn h 0).map oD)), none, none, none, none, none, none, none, none] M = .ok ⟨ls.map .int, none⟩ M := rfl
    rw [e]
    exact q1)]
  generalize hS : (stn h ls.length).map oD = sl at *
  rw [seq_next (L1 := [some (lsD ls), some (.int hi), some (.lst sl), y3, some (.ref (M ++ R1).length), y5, y6, none, y8, none, none]) (M1 := (M ++ R1) ++ [D.lst []]) rfl]
  rw [seq_next (L1 := [some (lsD ls), some (.int hi), some (.lst sl), y3, some (.ref (M ++ R1).length), z5, y6, z7, z8, z9, none]) (M1 := M') (by
    rw [x_for]
    have e : evI (clOf T 0 (k + 2)) (.seq (.var 2)) [some (lsD ls), some (.int hi), some (.lst sl), y3, some (.ref (M ++ R1).length), y5, y6, none, y8, none, none] ((M ++ R1) ++ [D.lst []]) = .ok ⟨sl, none⟩ ((M ++ R1) ++ [D.lst []]) := rfl
    rw [e]
    exact q2)]
  generalize (M ++ R1).length = a4 at *
  generalize lsD ls = d at *
  simp only [x_nil, x_cons, x_asg, x_ex, x_ret, x_ite, x_for, x_setI, x_aug, x_raise, e_var, e_lit, e_bin, e_neg, e_cmp, e_chain, e_and, e_or, e_not, e_ite, e_tru, e_tup, e_new, e_call, e_blt, e_mth, e_idx, e_slc, e_rev, p_nil, p_cons, es_nil, es_cons, c_nil, c_cons, n_disp, n_comp, n_comp2, n_listOf, n_listRg, n_sorted, n_dict0, i_seq, i_range, i_enum, i_zip, clOf_call', cl_call, clOf_hi2, clOf_lower2, R.bind_ok, R.bind_exc, R.then_ok, R.then_exc, R.nx_ok, RS.seq_next, RS.seq_ret, RS.seq_exc, ofO_some, asg_name, asg_tup2, wipe_nil, wipe_cons, truth_bl, cont_ref, cont_tup, cont_lst, cont_scr, cont_int, cont_bl, cont_non, cont_str, cont_dct, bin_int, in_add, in_sub, cmp_lt, cmp_le, cmp_gt, cmp_ge, cmp_isnBl, cmp_eqI, cmp_neI, cmp_eqB, cmp_neB, at_0, at_1, at_2, fin_ret, fin_next, fin_keep, fin_exc, clean_int, clean_bl, clean_non, seq_tup, seq_lst, List.getElem?_cons_zero, List.getElem?_cons_succ, List.set_cons_zero, List.set_cons_succ, Option.map_some, List.map_cons, List.map_nil, if_true, if_false, Bool.false_eq_true, Bool.not_true, Bool.not_false, Bool.and_true, Bool.true_and, Bool.false_and, decide_true, decide_false, List.replicate, List.append, List.nil_append, List.cons_append, q3, hcl]
end K77
namespace K77
open MP Z76 Z77 EW
variable {T : List FD} [Tb T]
/-! the heap while a case is judged: the ewer, and the list of values -/
def St (M : List D) (e : Nat) (b a c : Int) (vs : List D) : List D := M.set e (ewr a b c) ++ [.lst vs]
section
variable {M : List D} {e : Nat} {b : Int}
theorem St_e (he : e < M.length) (a c : Int) (vs : List D) : (St M e b a c vs)[e]? = some (ewr a b c) := by
  unfold St
  rw [List.getElem?_append_left (by rw [List.length_set]; exact he), List.getElem?_set_self he]
theorem St_v (a c : Int) (vs : List D) : (St M e b a c vs)[M.length]? = some (.lst vs) := by
  unfold St
  rw [List.getElem?_append_right (by rw [List.length_set]; exact Nat.le_refl _), List.length_set, Nat.sub_self]
  rfl
theorem St_set (he : e < M.length) (a c a' c' : Int) (vs : List D) : (St M e b a c vs).set e (ewr a' b c') = St M e b a' c' vs := by
  unfold St
  rw [List.set_append_left _ _ (by rw [List.length_set]; exact he), List.set_set]
theorem St_put (a c : Int) (vs ws : List D) : (St M e b a c vs).set M.length (.lst ws) = St M e b a c ws := by
  unfold St
  rw [List.set_append_right _ _ (by rw [List.length_set]; exact Nat.le_refl _), List.length_set, Nat.sub_self]
  rfl
theorem St_drip (he : e < M.length) (k : Nat) (a c : Int) (vs : List D) {total : Int} (h0 : 0 < total) (h1 : total < 1000000) : ∃ (r : Nat) (a' c' : Int), (r : Int) < total ∧ runF T 0 (k + 1) 18 [.ref e, .int total] (St M e b a c vs) = .ok (.int (r : Int)) (St M e b a' c' vs) := by
  obtain ⟨r, a', c', h2, h3, q⟩ := drip (T := T) t18 k (St_e he a c vs) h0 h1
  rw [St_set he] at q
  obtain ⟨m, rfl⟩ : ∃ m : Nat, r = (m : Int) := ⟨r.toNat, by omega⟩
  exact ⟨m, a', c', h3, q⟩
theorem St_app (a c : Int) (vs : List D) (v : D) (hl : vs.length < 1000) : mthS (St M e b a c vs) .append (.ref M.length) [v] = some (.non, St M e b a c (vs ++ [v])) := by
  rw [app_run (St_v a c vs) (Nat.lt_of_lt_of_le hl (by decide)), St_put]
theorem St_k (a c : Int) (vs : List D) : mthK (St M e b a c vs) (.ref M.length) = true := mthK_ref (St_v a c vs)
end
/-! the values -/
theorem okR_tup {l : List D} (h : l.all flat = true) (hl : l.length ≤ 1000) : okR (.tup l) := ⟨fun _ => rfl, fun l' e => by
  cases e
  exact ⟨h, hl⟩⟩
theorem okR_lst (l : List D) : okR (.lst l) := ⟨fun _ => rfl, fun _ e => nomatch e⟩
theorem okR_non : okR .non := ⟨fun _ => rfl, fun _ e => nomatch e⟩
theorem okV_tup {ds : List D} (hl : ds.length ≤ 1000) (h : ∀ d ∈ ds, okR d) : okV (.tup ds) := ⟨fun _ => rfl, fun l' e => by
  cases e
  exact ⟨hl, h⟩⟩
theorem okV_lst (l : List D) : okV (.lst l) := ⟨fun _ => rfl, fun _ e => nomatch e⟩
theorem okV_non : okV .non := ⟨fun _ => rfl, fun _ e => nomatch e⟩
theorem okV_int (i : Int) : okV (.int i) := ⟨fun _ => rfl, fun _ e => nomatch e⟩
theorem okV_dct (l : List (D × D)) : okV (.dct l) := ⟨fun _ => rfl, fun _ e => nomatch e⟩
/-- rows, short ones -/
structure Rs (Rw : List (List Nat)) (h : Nat) : Prop where
  len : Rw.length = h
  hh : 1 ≤ h ∧ h ≤ 4
  short : ∀ r ∈ Rw, r.length ≤ 100
theorem Rs.okR {Rw : List (List Nat)} {h : Nat} (q : Rs Rw h) : ∀ d ∈ Rw.map oD, okR d := fun d hd => by
  obtain ⟨r, hr, rfl⟩ := List.mem_map.mp hd
  exact okR_oD (by have := q.short r hr; omega)
theorem Rs.get {Rw : List (List Nat)} {h j : Nat} (q : Rs Rw h) (hj : j < h) : Rw.getD j [] ∈ Rw := by
  rw [List.getD_eq_getElem?_getD, List.getElem?_eq_getElem (by rw [q.len]; exact hj)]
  exact List.getElem_mem _
theorem idx_rows {M : List D} {Rw : List (List Nat)} {h j : Nat} (q : Rs Rw h) (hj : j < h) : idxS M (rowsD Rw) (.int (j : Int)) = some (oD (Rw.getD j [])) := by
  refine L2.atI_nat ?_
  rw [List.getElem?_map, List.getElem?_eq_getElem (by rw [q.len]; exact hj), List.getD_eq_getElem?_getD, List.getElem?_eq_getElem (by rw [q.len]; exact hj)]
  rfl
/-- one row in another's place -/
def put (Rw : List (List Nat)) (j : Nat) (o : D) : D := .tup ((Rw.map oD).take j ++ [o] ++ (Rw.map oD).drop (j + 1))
theorem put_ok {Rw : List (List Nat)} {h j : Nat} (q : Rs Rw h) (o : D) (ho : K77.okR o) : okV (put Rw j o) := by
  refine okV_tup ?_ fun d hd => ?_
  · have h1 := q.len
    have h2 := q.hh
    simp only [List.length_append, List.length_take, List.length_drop, List.length_map, List.length_cons, List.length_nil]
    omega
  · rcases List.mem_append.mp hd with z | z
    · rcases List.mem_append.mp z with z | z
      · exact q.okR d (List.mem_of_mem_take z)
      · simp at z
        rw [z]
        exact ho
    · exact q.okR d (List.mem_of_mem_drop z)
theorem add_tt (M : List D) (a b : List D) (h : a.length + b.length ≤ lim) : binS M .add (.tup a) (.tup b) = some (.tup (a ++ b)) := by
  show (if Bop.add = .add ∧ a.length + b.length ≤ lim then some (D.tup (a ++ b)) else none) = _
  rw [if_pos ⟨rfl, h⟩]
theorem st26_0 (cl : Cl) {M : List D} {e : Nat} {b : Int} (a c : Int) (vs : List D) (hl : vs.length < 1000) {Rw : List (List Nat)} {h j : Nat} (q : Rs Rw h) (x0 x1 x2 x4 x5 x6 x7 x8 x11 x13 x14 x15 x16 x17 x18 : Option D) (o : D) :
    exSs cl b26_0 [x0, x1, x2, some (.ref M.length), x4, x5, x6, x7, x8, some (rowsD Rw), some (.int (j : Int)), x11, some o, x13, x14, x15, x16, x17, x18] (St M e b a c vs) =
      .next [x0, x1, x2, some (.ref M.length), x4, x5, x6, x7, x8, some (rowsD Rw), some (.int (j : Int)), x11, some o, x13, x14, x15, x16, x17, x18] (St M e b a c (vs ++ [put Rw j o])) := by
  have e1 : slcS (St M e b a c vs) (rowsD Rw) none (some (j : Int)) = some (.tup ((Rw.map oD).take j)) := slc_to _ _ _
  have e2 : slcS (St M e b a c vs) (rowsD Rw) (some ((j : Int) + 1)) none = some (.tup ((Rw.map oD).drop (j + 1))) := by
    have : (j : Int) + 1 = ((j + 1 : Nat) : Int) := by omega
    rw [this]
    exact slc_from _ _ _
  have hlen : Rw.length ≤ 4 := by
    rw [q.len]
    exact q.hh.2
  have e3 : binS (St M e b a c vs) .add (.tup ((Rw.map oD).take j)) (.tup [o]) = some (.tup ((Rw.map oD).take j ++ [o])) := add_tt _ _ _ (by
    rw [List.length_take]
    exact Nat.le_trans (show _ ≤ 5 by simp; omega) (by decide))
  have e4 : binS (St M e b a c vs) .add (.tup ((Rw.map oD).take j ++ [o])) (.tup ((Rw.map oD).drop (j + 1))) = some (put Rw j o) := add_tt _ _ _ (by
    rw [List.length_append, List.length_take, List.length_drop]
    exact Nat.le_trans (show _ ≤ 100 by simp; omega) (by decide))
  have e5 := St_k (M := M) (e := e) (b := b) a c vs
  have e6 := St_app (M := M) (e := e) (b := b) a c vs (put Rw j o) hl
  have z : ([o]).length ≤ lim := by
    show 1 ≤ lim
    decide
  generalize (j : Int) = jj at *
  generalize rowsD Rw = rd at *
  generalize put Rw j o = pv at *
  generalize (Rw.map oD).take j = t1 at *
  generalize (Rw.map oD).drop (j + 1) = t2 at *
  generalize St M e b a c (vs ++ [pv]) = M2 at *
  generalize St M e b a c vs = M1 at *
  simp only [b26_0, x_nil, x_cons, x_asg, x_ex, x_ret, x_ite, x_for, x_setI, x_aug, x_raise, e_var, e_lit, e_bin, e_neg, e_cmp, e_chain, e_and, e_or, e_not, e_ite, e_tru, e_tup, e_new, e_call, e_blt, e_mth, e_idx, e_slc, e_rev, p_nil, p_cons, es_nil, es_cons, c_nil, c_cons, n_disp, n_comp, n_comp2, n_listOf, n_listRg, n_sorted, n_dict0, i_seq, i_range, i_enum, i_zip, clOf_call', cl_call, clOf_hi2, clOf_lower2, R.bind_ok, R.bind_exc, R.then_ok, R.then_exc, R.nx_ok, RS.seq_next, RS.seq_ret, RS.seq_exc, ofO_some, asg_name, asg_tup2, wipe_nil, wipe_cons, truth_bl, cont_ref, cont_tup, cont_lst, cont_scr, cont_int, cont_bl, cont_non, cont_str, cont_dct, bin_int, in_add, in_sub, cmp_lt, cmp_le, cmp_gt, cmp_ge, cmp_isnBl, cmp_eqI, cmp_neI, cmp_eqB, cmp_neB, at_0, at_1, at_2, fin_ret, fin_next, fin_keep, fin_exc, clean_int, clean_bl, clean_non, seq_tup, seq_lst, List.getElem?_cons_zero, List.getElem?_cons_succ, List.set_cons_zero, List.set_cons_succ, Option.map_some, List.map_cons, List.map_nil, if_true, if_false, Bool.false_eq_true, Bool.not_true, Bool.not_false, Bool.and_true, Bool.true_and, Bool.false_and, decide_true, decide_false, List.replicate, List.append, List.nil_append, List.cons_append, e1, e2, e3, e4, e5, e6, z]
theorem l26_0 (cl : Cl) {M : List D} {e : Nat} {b : Int} (a c : Int) (w : List D) {Rw : List (List Nat)} {h j : Nat} (q : Rs Rw h) (x0 x1 x2 x4 x5 x6 x7 x8 x11 x13 x14 x15 x16 x17 x18 : Option D) : ∀ (os : List D) (vs : List D) (x12 : Option D), vs.length + os.length ≤ 1000 →
    ∃ y12, forL ⟨w, none⟩ (.name 12) (exSs cl b26_0) os [x0, x1, x2, some (.ref M.length), x4, x5, x6, x7, x8, some (rowsD Rw), some (.int (j : Int)), x11, x12, x13, x14, x15, x16, x17, x18] (St M e b a c vs) =
      .next [x0, x1, x2, some (.ref M.length), x4, x5, x6, x7, x8, some (rowsD Rw), some (.int (j : Int)), x11, y12, x13, x14, x15, x16, x17, x18] (St M e b a c (vs ++ os.map (put Rw j)))
  | [], vs, x12, _ => ⟨x12, by
    rw [forL_nil rfl]
    simp⟩
  | o :: os, vs, x12, hl => by
    rw [List.length_cons] at hl
    have st := st26_0 cl (M := M) (e := e) (b := b) a c vs (by omega) q (j := j) x0 x1 x2 x4 x5 x6 x7 x8 x11 x13 x14 x15 x16 x17 x18 o
    obtain ⟨y12, ih⟩ := l26_0 cl (M := M) (e := e) (b := b) a c w q (j := j) x0 x1 x2 x4 x5 x6 x7 x8 x11 x13 x14 x15 x16 x17 x18 os (vs ++ [put Rw j o]) (some o) (by rw [List.length_append]; simp; omega)
    refine ⟨y12, (forL_cons rfl rfl st).trans (ih.trans ?_)⟩
    rw [List.append_assoc]
    rfl
/-- what stands in a row's place -/
def odds (r : List Nat) (m : Int) : List D := [.tup (oL r).reverse, .lst (oL r), .tup ((oL r).drop 1), .tup (oL r ++ [.int 0]), .tup (oL r ++ [.bl true]), .tup (oL r ++ [.int m]), .tup (oL r ++ [.non]), .non]
theorem odds_ok {r : List Nat} (hr : r.length ≤ 100) (m : Int) : ∀ o ∈ odds r m, K77.okR o := by
  have hf := oL_flat r
  have hl := oL_len r
  have app : ∀ d : D, flat d = true → K77.okR (.tup (oL r ++ [d])) := fun d hd => okR_tup (by rw [List.all_append, hf]; simp [hd]) (by rw [List.length_append, hl]; simp; omega)
  intro o ho
  simp only [odds, List.mem_cons, List.not_mem_nil, or_false] at ho
  rcases ho with rfl | rfl | rfl | rfl | rfl | rfl | rfl | rfl
  · exact okR_tup (by rw [List.all_reverse]; exact hf) (by rw [List.length_reverse, hl]; omega)
  · exact okR_lst _
  · refine okR_tup (List.all_eq_true.mpr fun x hx => List.all_eq_true.mp hf x (List.mem_of_mem_drop hx)) ?_
    rw [List.length_drop, hl]
    omega
  · exact app _ rfl
  · exact app _ rfl
  · exact app _ rfl
  · exact app _ rfl
  · exact okR_non
theorem st26_1 (k : Nat) {M : List D} {e : Nat} {b : Int} (he : e < M.length) (a c : Int) (vs : List D) (hl : vs.length + 8 ≤ 1000) (hv : ∀ v ∈ vs, okV v) {Rw : List (List Nat)} {h : Nat} (q : Rs Rw h) {hi : Int} (hE : hi = (h : Int)) (m : Int) (x1 x2 x4 x5 x8 x10 x11 x12 x13 x14 x15 x16 x17 x18 : Option D) :
    ∃ y10 y11 y12 a' c' ws, exSs (clOf T 0 (k + 1)) b26_1 [some (.ref e), x1, x2, some (.ref M.length), x4, x5, some (.int m), some (.int hi), x8, some (rowsD Rw), x10, x11, x12, x13, x14, x15, x16, x17, x18] (St M e b a c vs) =
      .next [some (.ref e), x1, x2, some (.ref M.length), x4, x5, some (.int m), some (.int hi), x8, some (rowsD Rw), y10, y11, y12, x13, x14, x15, x16, x17, x18] (St M e b a' c' ws) ∧ ws.length = vs.length + 8 ∧ ∀ v ∈ ws, okV v := by
  obtain ⟨j, a', c', hj, qd⟩ := St_drip (T := T) (b := b) he k a c vs (total := hi) (by have := q.hh; omega) (by have := q.hh; omega)
  have hjh : j < h := by omega
  have hr := q.short _ (q.get hjh)
  have qi := idx_rows (M := St M e b a' c' vs) q hjh
  obtain ⟨y12, ql⟩ := l26_0 (clOf T 0 (k + 1)) (M := M) (e := e) (b := b) a' c' (odds (Rw.getD j []) m) q (j := j) (some (.ref e)) x1 x2 x4 x5 (some (.int m)) (some (.int hi)) x8 (some (oD (Rw.getD j []))) x13 x14 x15 x16 x17 x18 (odds (Rw.getD j []) m) vs x12 (by simp [odds]; omega)
  refine ⟨some (.int (j : Int)), some (oD (Rw.getD j [])), y12, a', c', vs ++ (odds (Rw.getD j []) m).map (put Rw j), ?_, by simp [odds], fun v hv' => ?_⟩
  · have e1 : ∀ M1 : List D, revS M1 (oD (Rw.getD j [])) = some (.tup (oL (Rw.getD j [])).reverse) := fun _ => rfl
    have e2 : ∀ M1 : List D, slcS M1 (oD (Rw.getD j [])) (some 1) none = some (.tup ((oL (Rw.getD j [])).drop 1)) := fun M1 => slc_from M1 (oL (Rw.getD j [])) 1
    have hlen : (oL (Rw.getD j [])).length ≤ 100 := by
      rw [oL_len]
      exact hr
    have e3 : ∀ (M1 : List D) (d : D), binS M1 .add (oD (Rw.getD j [])) (.tup [d]) = some (.tup (oL (Rw.getD j []) ++ [d])) := fun M1 d => add_t M1 _ d hlen
    have e4 : ∀ M1 : List D, cont M1 (oD (Rw.getD j [])) = some (.tup (oL (Rw.getD j []))) := fun _ => rfl
    have z1 : ∀ d : D, ([d]).length ≤ lim := fun d => by
      show 1 ≤ lim
      decide
    have z8 : (odds (Rw.getD j []) m).length ≤ lim := by
      show 8 ≤ lim
      decide
    have hsq : ∀ M1 : List D, seqS M1 (.tup (odds (Rw.getD j []) m)) = some ⟨odds (Rw.getD j []) m, none⟩ := fun _ => rfl
    have hodds : odds (Rw.getD j []) m = [.tup (oL (Rw.getD j [])).reverse, .lst (oL (Rw.getD j [])), .tup ((oL (Rw.getD j [])).drop 1), .tup (oL (Rw.getD j []) ++ [.int 0]), .tup (oL (Rw.getD j []) ++ [.bl true]), .tup (oL (Rw.getD j []) ++ [.int m]), .tup (oL (Rw.getD j []) ++ [.non]), .non] := rfl
    generalize oL (Rw.getD j []) = rl at *
    generalize oD (Rw.getD j []) = rd at *
    generalize (j : Int) = jj at *
    generalize rowsD Rw = rws at *
    have hev : evI (clOf T 0 (k + 1)) (.seq (.tup (.cons (.rev (.var 11)) (.cons (.new true (.listOf (.var 11))) (.cons (.slc (.var 11) (.cons (.lit (.int 1)) .nil) .nil) (.cons (.bin .add (.var 11) (.tup (.cons (.lit (.int 0)) .nil))) (.cons (.bin .add (.var 11) (.tup (.cons (.lit (.bl true)) .nil))) (.cons (.bin .add (.var 11) (.tup (.cons (.var 6) .nil))) (.cons (.bin .add (.var 11) (.tup (.cons (.lit .non) .nil))) (.cons (.lit .non) .nil))))))))))
        [some (.ref e), x1, x2, some (.ref M.length), x4, x5, some (.int m), some (.int hi), x8, some rws, some (.int jj), some rd, x12, x13, x14, x15, x16, x17, x18] (St M e b a' c' vs) = .ok ⟨odds (Rw.getD j []) m, none⟩ (St M e b a' c' vs) := by
      rw [hodds] at z8 hsq ⊢
      generalize St M e b a' c' vs = M1 at *
      simp only [x_nil, x_cons, x_asg, x_ex, x_ret, x_ite, x_for, x_setI, x_aug, x_raise, e_var, e_lit, e_bin, e_neg, e_cmp, e_chain, e_and, e_or, e_not, e_ite, e_tru, e_tup, e_new, e_call, e_blt, e_mth, e_idx, e_slc, e_rev, p_nil, p_cons, es_nil, es_cons, c_nil, c_cons, n_disp, n_comp, n_comp2, n_listOf, n_listRg, n_sorted, n_dict0, i_seq, i_range, i_enum, i_zip, clOf_call', cl_call, clOf_hi2, clOf_lower2, R.bind_ok, R.bind_exc, R.then_ok, R.then_exc, R.nx_ok, RS.seq_next, RS.seq_ret, RS.seq_exc, ofO_some, asg_name, asg_tup2, wipe_nil, wipe_cons, truth_bl, cont_ref, cont_tup, cont_lst, cont_scr, cont_int, cont_bl, cont_non, cont_str, cont_dct, bin_int, in_add, in_sub, cmp_lt, cmp_le, cmp_gt, cmp_ge, cmp_isnBl, cmp_eqI, cmp_neI, cmp_eqB, cmp_neB, at_0, at_1, at_2, fin_ret, fin_next, fin_keep, fin_exc, clean_int, clean_bl, clean_non, seq_tup, seq_lst, List.getElem?_cons_zero, List.getElem?_cons_succ, List.set_cons_zero, List.set_cons_succ, Option.map_some, List.map_cons, List.map_nil, if_true, if_false, Bool.false_eq_true, Bool.not_true, Bool.not_false, Bool.and_true, Bool.true_and, Bool.false_and, decide_true, decide_false, List.replicate, List.append, List.nil_append, List.cons_append, e1, e2, e3, e4, z1, z8, hsq]
    unfold b26_1
    rw [seq_next (L1 := [some (.ref e), x1, x2, some (.ref M.length), x4, x5, some (.int m), some (.int hi), x8, some rws, some (.int jj), x11, x12, x13, x14, x15, x16, x17, x18]) (M1 := St M e b a' c' vs) (by
      generalize St M e b a' c' vs = M1 at *
      generalize St M e b a c vs = M0 at *
      simp only [x_nil, x_cons, x_asg, x_ex, x_ret, x_ite, x_for, x_setI, x_aug, x_raise, e_var, e_lit, e_bin, e_neg, e_cmp, e_chain, e_and, e_or, e_not, e_ite, e_tru, e_tup, e_new, e_call, e_blt, e_mth, e_idx, e_slc, e_rev, p_nil, p_cons, es_nil, es_cons, c_nil, c_cons, n_disp, n_comp, n_comp2, n_listOf, n_listRg, n_sorted, n_dict0, i_seq, i_range, i_enum, i_zip, clOf_call', cl_call, clOf_hi2, clOf_lower2, R.bind_ok, R.bind_exc, R.then_ok, R.then_exc, R.nx_ok, RS.seq_next, RS.seq_ret, RS.seq_exc, ofO_some, asg_name, asg_tup2, wipe_nil, wipe_cons, truth_bl, cont_ref, cont_tup, cont_lst, cont_scr, cont_int, cont_bl, cont_non, cont_str, cont_dct, bin_int, in_add, in_sub, cmp_lt, cmp_le, cmp_gt, cmp_ge, cmp_isnBl, cmp_eqI, cmp_neI, cmp_eqB, cmp_neB, at_0, at_1, at_2, fin_ret, fin_next, fin_keep, fin_exc, clean_int, clean_bl, clean_non, seq_tup, seq_lst, List.getElem?_cons_zero, List.getElem?_cons_succ, List.set_cons_zero, List.set_cons_succ, Option.map_some, List.map_cons, List.map_nil, if_true, if_false, Bool.false_eq_true, Bool.not_true, Bool.not_false, Bool.and_true, Bool.true_and, Bool.false_and, decide_true, decide_false, List.replicate, List.append, List.nil_append, List.cons_append, qd])]
    rw [seq_next (L1 := [some (.ref e), x1, x2, some (.ref M.length), x4, x5, some (.int m), some (.int hi), x8, some rws, some (.int jj), some rd, x12, x13, x14, x15, x16, x17, x18]) (M1 := St M e b a' c' vs) (by
      generalize St M e b a' c' vs = M1 at *
      simp only [x_nil, x_cons, x_asg, x_ex, x_ret, x_ite, x_for, x_setI, x_aug, x_raise, e_var, e_lit, e_bin, e_neg, e_cmp, e_chain, e_and, e_or, e_not, e_ite, e_tru, e_tup, e_new, e_call, e_blt, e_mth, e_idx, e_slc, e_rev, p_nil, p_cons, es_nil, es_cons, c_nil, c_cons, n_disp, n_comp, n_comp2, n_listOf, n_listRg, n_sorted, n_dict0, i_seq, i_range, i_enum, i_zip, clOf_call', cl_call, clOf_hi2, clOf_lower2, R.bind_ok, R.bind_exc, R.then_ok, R.then_exc, R.nx_ok, RS.seq_next, RS.seq_ret, RS.seq_exc, ofO_some, asg_name, asg_tup2, wipe_nil, wipe_cons, truth_bl, cont_ref, cont_tup, cont_lst, cont_scr, cont_int, cont_bl, cont_non, cont_str, cont_dct, bin_int, in_add, in_sub, cmp_lt, cmp_le, cmp_gt, cmp_ge, cmp_isnBl, cmp_eqI, cmp_neI, cmp_eqB, cmp_neB, at_0, at_1, at_2, fin_ret, fin_next, fin_keep, fin_exc, clean_int, clean_bl, clean_non, seq_tup, seq_lst, List.getElem?_cons_zero, List.getElem?_cons_succ, List.set_cons_zero, List.set_cons_succ, Option.map_some, List.map_cons, List.map_nil, if_true, if_false, Bool.false_eq_true, Bool.not_true, Bool.not_false, Bool.and_true, Bool.true_and, Bool.false_and, decide_true, decide_false, List.replicate, List.append, List.nil_append, List.cons_append, qi])]
    rw [seq_next (L1 := [some (.ref e), x1, x2, some (.ref M.length), x4, x5, some (.int m), some (.int hi), x8, some rws, some (.int jj), some rd, y12, x13, x14, x15, x16, x17, x18]) (M1 := St M e b a' c' (vs ++ (odds (Rw.getD j []) m).map (put Rw j))) (by
      rw [x_for, hev]
      exact ql)]
    rfl
  · rcases List.mem_append.mp hv' with z | z
    · exact hv v z
    · obtain ⟨o, ho, rfl⟩ := List.mem_map.mp z
      exact put_ok q o (odds_ok hr m o ho)
end K77
namespace K77
open MP Z76 Z77 EW
variable {T : List FD} [Tb T]
/-! rows by drawn spots -/
def flt (sp : List Int) (n j : Nat) : List Nat := (List.range n).filter fun i => sp.getD i 0 = (j : Int)
theorem ints_of {P : Int → Prop} : ∀ {zs : List D}, (∀ z ∈ zs, ∃ i, z = .int i ∧ P i) → ∃ sp : List Int, zs = sp.map .int ∧ ∀ i ∈ sp, P i
  | [], _ => ⟨[], rfl, fun _ h => nomatch h⟩
  | z :: zs, h => by
    obtain ⟨i, e, hp⟩ := h z List.mem_cons_self
    obtain ⟨sp, e2, h2⟩ := ints_of (zs := zs) fun y hy => h y (List.mem_cons_of_mem _ hy)
    refine ⟨i :: sp, by rw [e, e2]; rfl, fun x hx => ?_⟩
    rcases List.mem_cons.mp hx with rfl | hx
    · exact hp
    · exact h2 x hx
theorem flt_run (cl : Cl) (M : List D) {n : Nat} (hn : n ≤ 9) {m : Int} (hm : m = (n : Int)) {sp : List Int} (hs : sp.length = n) (j : Nat) (x0 x1 x2 x3 x4 x5 x7 x8 x9 x11 x12 x14 x15 x16 x17 : Option D) :
    evN cl (.comp [18] (.var 18) (.name 18) (.range (.lit (.int 0)) (.var 6)) (.cons (.cmp .eq (.idx (.var 13) (.var 18)) (.var 10)) .nil)) [x0, x1, x2, x3, x4, x5, some (.int m), x7, x8, x9, some (.int (j : Int)), x11, x12, some (.lst (sp.map .int)), x14, x15, x16, x17, none] M = .ok (.lst (oL (flt sp n j))) M := by
  have hr : rgOk 0 m = true := rg_ok ⟨by omega, by omega⟩
  have hg : rgL 0 m = oL (List.range n) := rgL_nat hm
  have hi1 := range_run (cl := cl) (L := [x0, x1, x2, x3, x4, x5, some (.int m), x7, x8, x9, some (.int (j : Int)), x11, x12, some (.lst (sp.map .int)), x14, x15, x16, x17, none]) (M := M) (a := .lit (.int 0)) (b := .var 6) (e_lit _ _ _ _) rfl hr
  rw [hg] at hi1
  have hlim : (oL (List.range n)).length ≤ lim := by
    rw [oL_len, List.length_range]
    exact Nat.le_trans hn (by decide)
  have hc := compL_pure (w := ⟨oL (List.range n), none⟩) (tg := .name 18) (L := [x0, x1, x2, x3, x4, x5, some (.int m), x7, x8, x9, some (.int (j : Int)), x11, x12, some (.lst (sp.map .int)), x14, x15, x16, x17, none]) (M := M) (cnd := evC cl (.cons (.cmp .eq (.idx (.var 13) (.var 18)) (.var 10)) .nil)) (elt := evE cl (.var 18))
    rfl (fun i : Nat => D.int (i : Int)) (fun i => decide (sp.getD i 0 = (j : Int))) (fun i : Nat => D.int (i : Int)) (List.range n) (fun i hi => by
      refine ⟨[x0, x1, x2, x3, x4, x5, some (.int m), x7, x8, x9, some (.int (j : Int)), x11, x12, some (.lst (sp.map .int)), x14, x15, x16, x17, some (.int (i : Int))], rfl, ?_, fun _ => rfl⟩
      have hi' := List.mem_range.mp hi
      have q : idxS M (.lst (sp.map .int)) (.int (i : Int)) = some (.int (sp.getD i 0)) := by
        refine L2.atI_nat ?_
        rw [List.getElem?_map, List.getElem?_eq_getElem (by omega), List.getD_eq_getElem?_getD, List.getElem?_eq_getElem (by omega)]
        rfl
      generalize (j : Int) = b at *
      generalize (i : Int) = c at *
      generalize D.lst (sp.map .int) = sd at *
      simp only [x_nil, x_cons, x_asg, x_ex, x_ret, x_ite, x_for, x_setI, x_aug, x_raise, e_var, e_lit, e_bin, e_neg, e_cmp, e_chain, e_and, e_or, e_not, e_ite, e_tru, e_tup, e_new, e_call, e_blt, e_mth, e_idx, e_slc, e_rev, p_nil, p_cons, es_nil, es_cons, c_nil, c_cons, n_disp, n_comp, n_comp2, n_listOf, n_listRg, n_sorted, n_dict0, i_seq, i_range, i_enum, i_zip, clOf_call', cl_call, clOf_hi2, clOf_lower2, R.bind_ok, R.bind_exc, R.then_ok, R.then_exc, R.nx_ok, RS.seq_next, RS.seq_ret, RS.seq_exc, ofO_some, asg_name, asg_tup2, wipe_nil, wipe_cons, truth_bl, cont_ref, cont_tup, cont_lst, cont_scr, cont_int, cont_bl, cont_non, cont_str, cont_dct, bin_int, in_add, in_sub, cmp_lt, cmp_le, cmp_gt, cmp_ge, cmp_isnBl, cmp_eqI, cmp_neI, cmp_eqB, cmp_neB, at_0, at_1, at_2, fin_ret, fin_next, fin_keep, fin_exc, clean_int, clean_bl, clean_non, seq_tup, seq_lst, List.getElem?_cons_zero, List.getElem?_cons_succ, List.set_cons_zero, List.set_cons_succ, Option.map_some, List.map_cons, List.map_nil, if_true, if_false, Bool.false_eq_true, Bool.not_true, Bool.not_false, Bool.and_true, Bool.true_and, Bool.false_and, decide_true, decide_false, List.replicate, List.append, List.nil_append, List.cons_append, q])
  rw [n_comp, hi1, R.bind_ok, if_pos hlim]
  show ((compL _ _ [x0, x1, x2, x3, x4, x5, some (.int m), x7, x8, x9, some (.int (j : Int)), x11, x12, some (.lst (sp.map .int)), x14, x15, x16, x17, none] _ _ ((List.range n).map fun i : Nat => D.int (i : Int)) M).nx).bind _ = _
  rw [hc]
  rfl
theorem parts_run (cl : Cl) (M : List D) {n : Nat} (hn : n ≤ 9) {m : Int} (hm : m = (n : Int)) {sp : List Int} (hs : sp.length = n) {h : Nat} (hh : h ≤ 4) {hi : Int} (hE : hi = (h : Int)) (x0 x1 x2 x3 x4 x5 x8 x9 x10 x11 x12 x14 x15 x16 x17 x18 : Option D) :
    evN cl (.comp [10] (.blt .tuple (.cons (.new true (.comp [18] (.var 18) (.name 18) (.range (.lit (.int 0)) (.var 6)) (.cons (.cmp .eq (.idx (.var 13) (.var 18)) (.var 10)) .nil))) .nil)) (.name 10) (.range (.lit (.int 0)) (.var 7)) .nil) [x0, x1, x2, x3, x4, x5, some (.int m), some (.int hi), x8, x9, x10, x11, x12, some (.lst (sp.map .int)), x14, x15, x16, x17, x18] M =
      .ok (.lst (((List.range h).map (flt sp n)).map oD)) M := by
  have hr : rgOk 0 hi = true := rg_ok ⟨by omega, by omega⟩
  have hg : rgL 0 hi = oL (List.range h) := rgL_nat hE
  have hi1 := range_run (cl := cl) (L := [x0, x1, x2, x3, x4, x5, some (.int m), some (.int hi), x8, x9, x10, x11, x12, some (.lst (sp.map .int)), x14, x15, x16, x17, x18]) (M := M) (a := .lit (.int 0)) (b := .var 7) (e_lit _ _ _ _) rfl hr
  rw [hg] at hi1
  have hlim : (oL (List.range h)).length ≤ lim := by
    rw [oL_len, List.length_range]
    exact Nat.le_trans hh (by decide)
  have hc := compL_map (w := ⟨oL (List.range h), none⟩) (tg := .name 10) (L := [x0, x1, x2, x3, x4, x5, some (.int m), some (.int hi), x8, x9, none, x11, x12, some (.lst (sp.map .int)), x14, x15, x16, x17, x18]) (M := M) (cl := cl)
    (elt := evE cl (.blt .tuple (.cons (.new true (.comp [18] (.var 18) (.name 18) (.range (.lit (.int 0)) (.var 6)) (.cons (.cmp .eq (.idx (.var 13) (.var 18)) (.var 10)) .nil))) .nil))) rfl (fun j : Nat => D.int (j : Int)) (fun j => oD (flt sp n j)) (List.range h) (fun j _ => by
      refine ⟨[x0, x1, x2, x3, x4, x5, some (.int m), some (.int hi), x8, x9, some (.int (j : Int)), x11, x12, some (.lst (sp.map .int)), x14, x15, x16, x17, x18], rfl, ?_⟩
      have q := flt_run cl M hn hm hs j x0 x1 x2 x3 x4 x5 (some (.int hi)) x8 x9 x11 x12 x14 x15 x16 x17
      have q' : evN cl (.comp [18] (.var 18) (.name 18) (.range (.lit (.int 0)) (.var 6)) (.cons (.cmp .eq (.idx (.var 13) (.var 18)) (.var 10)) .nil)) [x0, x1, x2, x3, x4, x5, some (.int m), some (.int hi), x8, x9, some (.int (j : Int)), x11, x12, some (.lst (sp.map .int)), x14, x15, x16, x17, x18] M = .ok (.lst (oL (flt sp n j))) M := q
      have htup : bltS M .tuple [.lst (oL (flt sp n j))] = some (oD (flt sp n j)) := rfl
      generalize oL (flt sp n j) = ol at *
      generalize oD (flt sp n j) = od at *
      rw [e_blt, es_cons, e_new, q']
      simp only [x_nil, x_cons, x_asg, x_ex, x_ret, x_ite, x_for, x_setI, x_aug, x_raise, e_var, e_lit, e_bin, e_neg, e_cmp, e_chain, e_and, e_or, e_not, e_ite, e_tru, e_tup, e_new, e_call, e_blt, e_mth, e_idx, e_slc, e_rev, p_nil, p_cons, es_nil, es_cons, c_nil, c_cons, n_disp, n_comp, n_comp2, n_listOf, n_listRg, n_sorted, n_dict0, i_seq, i_range, i_enum, i_zip, clOf_call', cl_call, clOf_hi2, clOf_lower2, R.bind_ok, R.bind_exc, R.then_ok, R.then_exc, R.nx_ok, RS.seq_next, RS.seq_ret, RS.seq_exc, ofO_some, asg_name, asg_tup2, wipe_nil, wipe_cons, truth_bl, cont_ref, cont_tup, cont_lst, cont_scr, cont_int, cont_bl, cont_non, cont_str, cont_dct, bin_int, in_add, in_sub, cmp_lt, cmp_le, cmp_gt, cmp_ge, cmp_isnBl, cmp_eqI, cmp_neI, cmp_eqB, cmp_neB, at_0, at_1, at_2, fin_ret, fin_next, fin_keep, fin_exc, clean_int, clean_bl, clean_non, seq_tup, seq_lst, List.getElem?_cons_zero, List.getElem?_cons_succ, List.set_cons_zero, List.set_cons_succ, Option.map_some, List.map_cons, List.map_nil, if_true, if_false, Bool.false_eq_true, Bool.not_true, Bool.not_false, Bool.and_true, Bool.true_and, Bool.false_and, decide_true, decide_false, List.replicate, List.append, List.nil_append, List.cons_append, htup])
  rw [n_comp, hi1, R.bind_ok, if_pos hlim]
  show ((compL _ _ [x0, x1, x2, x3, x4, x5, some (.int m), some (.int hi), x8, x9, none, x11, x12, some (.lst (sp.map .int)), x14, x15, x16, x17, x18] _ _ ((List.range h).map fun j : Nat => D.int (j : Int)) M).nx).bind _ = _
  rw [hc, List.map_map]
  rfl
theorem parts_ok {sp : List Int} {n h : Nat} (hn : n ≤ 9) (hh : h ≤ 4) : okV (rowsD ((List.range h).map (flt sp n))) := by
  refine okV_tup (by simp; omega) fun d hd => ?_
  obtain ⟨r, hr, rfl⟩ := List.mem_map.mp hd
  obtain ⟨j, _, rfl⟩ := List.mem_map.mp hr
  refine okR_oD ?_
  have h1 : (flt sp n j).length ≤ (List.range n).length := List.length_filter_le _ _
  rw [List.length_range] at h1
  omega
theorem st26_2 (k : Nat) {M : List D} {e : Nat} {b : Int} (he : e < M.length) (a c : Int) (vs : List D) (hl : vs.length + 1 ≤ 1000) (hv : ∀ v ∈ vs, okV v) {ls : List Int} (hl9 : ls.length ≤ 9) {m : Int} (hm : m = (ls.length : Nat)) {h : Nat} (hh : 1 ≤ h ∧ h ≤ 4) {hi : Int} (hE : hi = (h : Int)) (x1 x4 x5 x8 x9 x10 x11 x12 x13 x14 x15 x16 x17 x18 : Option D) :
    ∃ y13 a' c' ws, exSs (clOf T 0 (k + 1)) b26_2 [some (.ref e), x1, some (lsD ls), some (.ref M.length), x4, x5, some (.int m), some (.int hi), x8, x9, x10, x11, x12, x13, x14, x15, x16, x17, x18] (St M e b a c vs) =
      .next [some (.ref e), x1, some (lsD ls), some (.ref M.length), x4, x5, some (.int m), some (.int hi), x8, x9, x10, x11, x12, y13, x14, x15, x16, x17, x18] (St M e b a' c' ws) ∧ ws.length = vs.length + 1 ∧ ∀ v ∈ ws, okV v := by
  have hlim : (ls.map D.int).length ≤ lim := by
    rw [List.length_map]
    exact Nat.le_trans hl9 (by decide)
  obtain ⟨zs, M3, q1, ⟨a', c', rfl⟩, q3, q4⟩ := compL_inv (w := ⟨ls.map D.int, none⟩) (tg := .name 16) (L := [some (.ref e), x1, some (lsD ls), some (.ref M.length), x4, x5, some (.int m), some (.int hi), x8, x9, x10, x11, x12, x13, x14, x15, none, x17, x18]) (cl := clOf T 0 (k + 1))
    (elt := evE (clOf T 0 (k + 1)) (.call 18 (.cons (.var 0) (.cons (.var 7) .nil)))) (fun M' => ∃ a c, M' = St M e b a c vs) (fun z => ∃ i : Int, z = .int i ∧ True) D.int (fun _ _ => rfl) ls (St M e b a c vs) ⟨a, c, rfl⟩ (fun x _ M' hM' => by
      obtain ⟨a1, c1, rfl⟩ := hM'
      obtain ⟨r, a2, c2, _, qd⟩ := St_drip (T := T) (b := b) he k a1 c1 vs (total := hi) (by omega) (by omega)
      refine ⟨[some (.ref e), x1, some (lsD ls), some (.ref M.length), x4, x5, some (.int m), some (.int hi), x8, x9, x10, x11, x12, x13, x14, x15, some (.int x), x17, x18], rfl, .int (r : Int), St M e b a2 c2 vs, ?_, ⟨a2, c2, rfl⟩, (r : Int), rfl, trivial⟩
      generalize (r : Int) = rr at *
      generalize lsD ls = d at *
      generalize St M e b a1 c1 vs = M1 at *
      generalize St M e b a2 c2 vs = M2 at *
      simp only [x_nil, x_cons, x_asg, x_ex, x_ret, x_ite, x_for, x_setI, x_aug, x_raise, e_var, e_lit, e_bin, e_neg, e_cmp, e_chain, e_and, e_or, e_not, e_ite, e_tru, e_tup, e_new, e_call, e_blt, e_mth, e_idx, e_slc, e_rev, p_nil, p_cons, es_nil, es_cons, c_nil, c_cons, n_disp, n_comp, n_comp2, n_listOf, n_listRg, n_sorted, n_dict0, i_seq, i_range, i_enum, i_zip, clOf_call', cl_call, clOf_hi2, clOf_lower2, R.bind_ok, R.bind_exc, R.then_ok, R.then_exc, R.nx_ok, RS.seq_next, RS.seq_ret, RS.seq_exc, ofO_some, asg_name, asg_tup2, wipe_nil, wipe_cons, truth_bl, cont_ref, cont_tup, cont_lst, cont_scr, cont_int, cont_bl, cont_non, cont_str, cont_dct, bin_int, in_add, in_sub, cmp_lt, cmp_le, cmp_gt, cmp_ge, cmp_isnBl, cmp_eqI, cmp_neI, cmp_eqB, cmp_neB, at_0, at_1, at_2, fin_ret, fin_next, fin_keep, fin_exc, clean_int, clean_bl, clean_non, seq_tup, seq_lst, List.getElem?_cons_zero, List.getElem?_cons_succ, List.set_cons_zero, List.set_cons_succ, Option.map_some, List.map_cons, List.map_nil, if_true, if_false, Bool.false_eq_true, Bool.not_true, Bool.not_false, Bool.and_true, Bool.true_and, Bool.false_and, decide_true, decide_false, List.replicate, List.append, List.nil_append, List.cons_append, qd])
  obtain ⟨sp, rfl, _⟩ := ints_of q4
  rw [List.length_map] at q3
  have q5 := parts_run (clOf T 0 (k + 1)) (St M e b a' c' vs) hl9 hm q3 hh.2 hE (some (.ref e)) x1 (some (lsD ls)) (some (.ref M.length)) x4 x5 x8 x9 x10 x11 x12 x14 x15 x16 x17 x18
  have e5 := St_k (M := M) (e := e) (b := b) a' c' vs
  have e6 := St_app (M := M) (e := e) (b := b) a' c' vs (rowsD ((List.range h).map (flt sp ls.length))) (by omega)
  have htup : ∀ M1 : List D, bltS M1 .tuple [.lst (((List.range h).map (flt sp ls.length)).map oD)] = some (rowsD ((List.range h).map (flt sp ls.length))) := fun _ => rfl
  refine ⟨some (.lst (sp.map .int)), a', c', vs ++ [rowsD ((List.range h).map (flt sp ls.length))], ?_, by simp, fun v hv' => ?_⟩
  · unfold b26_2
    have s1 : exS (clOf T 0 (k + 1)) (.asg (.name 13) (.new true (.comp [16] (.call 18 (.cons (.var 0) (.cons (.var 7) .nil))) (.name 16) (.seq (.var 2)) .nil))) [some (.ref e), x1, some (lsD ls), some (.ref M.length), x4, x5, some (.int m), some (.int hi), x8, x9, x10, x11, x12, x13, x14, x15, x16, x17, x18] (St M e b a c vs) =
        .next [some (.ref e), x1, some (lsD ls), some (.ref M.length), x4, x5, some (.int m), some (.int hi), x8, x9, x10, x11, x12, some (.lst (sp.map .int)), x14, x15, x16, x17, x18] (St M e b a' c' vs) := by
      have hn : evN (clOf T 0 (k + 1)) (.comp [16] (.call 18 (.cons (.var 0) (.cons (.var 7) .nil))) (.name 16) (.seq (.var 2)) .nil) [some (.ref e), x1, some (lsD ls), some (.ref M.length), x4, x5, some (.int m), some (.int hi), x8, x9, x10, x11, x12, x13, x14, x15, x16, x17, x18] (St M e b a c vs) = .ok (.lst (sp.map .int)) (St M e b a' c' vs) := by
        rw [n_comp]
        have hi1 : evI (clOf T 0 (k + 1)) (.seq (.var 2)) [some (.ref e), x1, some (lsD ls), some (.ref M.length), x4, x5, some (.int m), some (.int hi), x8, x9, x10, x11, x12, x13, x14, x15, x16, x17, x18] (St M e b a c vs) = .ok ⟨ls.map D.int, none⟩ (St M e b a c vs) := rfl
        rw [hi1, R.bind_ok, if_pos hlim]
        show ((compL _ _ [some (.ref e), x1, some (lsD ls), some (.ref M.length), x4, x5, some (.int m), some (.int hi), x8, x9, x10, x11, x12, x13, x14, x15, none, x17, x18] _ _ (ls.map D.int) (St M e b a c vs)).nx).bind _ = _
        rw [q1]
        rfl
      rw [x_asg, e_new, hn]
      rfl
    rw [seq_next s1]
    generalize rowsD ((List.range h).map (flt sp ls.length)) = pd at *
    generalize ((List.range h).map (flt sp ls.length)).map oD = pl at *
    generalize lsD ls = d at *
    generalize sp.map D.int = spd at *
    generalize St M e b a' c' (vs ++ [pd]) = M2 at *
    generalize St M e b a' c' vs = M1 at *
    rw [x_cons, x_ex, e_mth]
    simp only [e_var, List.getElem?_cons_succ, List.getElem?_cons_zero, R.bind_ok, e5, if_true, es_cons, e_blt, e_new, q5, es_nil, htup, ofO_some, e6, R.then_ok, RS.seq_next, x_nil]
  · rcases List.mem_append.mp hv' with z | z
    · exact hv v z
    · simp at z
      rw [z]
      exact parts_ok hl9 hh.2
/-! a value judged -/
theorem eqS_self {M : List D} {d : D} {p : PySem.PyData} (h : (frz M 0 6 d).bind toPD = some p) (hs : PySem.SeqAt.shaped p = true) (hr : PySem.PyData.eqv p p = true) : eqS M d d = some true := by
  rw [eqS_of h h hs hs, hr]
theorem eq_told (M : List D) (i : Int) : cmpS M .ne (.tup [.str "told", .int i]) (.tup [.str "told", .int i]) = some false := by
  have e : eqS M (.tup [.str "told", .int i]) (.tup [.str "told", .int i]) = some true := eqS_self (p := .tuple [.str "told", .int i]) rfl (by simp [PySem.SeqAt.shaped, PySem.PyData.canLay0, PySem.PyData.canLayAll0, PySem.PyData.depth, PySem.PyData.depthAll]; decide +kernel) (by simp [PySem.PyData.eqv, PySem.PyData.eqvAll])
  show (eqS M (.tup [.str "told", .int i]) (.tup [.str "told", .int i])).map not = _
  rw [e]
  rfl
theorem eq_raised (M : List D) : cmpS M .ne (.tup [.str "raised", .str "operation"]) (.tup [.str "raised", .str "operation"]) = some false := by
  have e : eqS M (.tup [.str "raised", .str "operation"]) (.tup [.str "raised", .str "operation"]) = some true := eqS_self (p := .tuple [.str "raised", .str "operation"]) rfl (by decide +kernel) (by decide +kernel)
  show (eqS M (.tup [.str "raised", .str "operation"]) (.tup [.str "raised", .str "operation"])).map not = _
  rw [e]
  rfl
theorem ne_tf (M : List D) (t : Bool) : cmpS M .ne (.str (if t then "True" else "False")) (.str (if t then "True" else "False")) = some false := by
  have e : eqS M (.str (if t then "True" else "False")) (.str (if t then "True" else "False")) = some true := eqS_self (p := .str (if t then "True" else "False")) rfl (by cases t <;> decide +kernel) (by simp [PySem.PyData.eqv])
  show (eqS M (.str (if t then "True" else "False")) (.str (if t then "True" else "False"))).map not = _
  rw [e]
  rfl
theorem st26_3 (k : Nat) (M : List D) {ls : List Int} (ok : Okl ls) (h1 : 1 ≤ ls.length) (hl : ls.length ≤ 9) {m : Int} (hm : m = (ls.length : Nat)) {h : Nat} (hh : 1 ≤ h ∧ h ≤ 4) {hi : Int} (hE : hi = (h : Int)) {v : D} (hv : okV v) (x0 x1 x3 x4 x8 x9 x10 x11 x12 x13 x14 x15 x16 x17 x18 : Option D) :
    ∃ y14 y15, exSs (clOf T 0 (k + 6)) b26_3 [x0, x1, some (lsD ls), x3, x4, some v, some (.int m), some (.int hi), x8, x9, x10, x11, x12, x13, x14, x15, x16, x17, x18] M =
      .next [x0, x1, some (lsD ls), x3, x4, some v, some (.int m), some (.int hi), x8, x9, x10, x11, x12, x13, y14, y15, x16, x17, x18] M := by
  have q23 := c23 (T := T) (k + 3) M hl hm hE hv
  have q13 := c13 (T := T) (k + 2) M ok h1 hl hh hE hv
  have hrep : bltS M .repr [.bl (rowsOk ls.length h v)] = some (.str (if rowsOk ls.length h v then "True" else "False")) := rfl
  have hne := ne_tf M (rowsOk ls.length h v)
  cases hb : rowsOk ls.length h v with
  | false =>
    have q14 := c14no (T := T) k M ok h1 hl hh hE hv hb
    rw [hb] at q23 q13 hrep hne
    refine ⟨some (.bl false), some (.tup [.str "raised", .str "operation"]), ?_⟩
    have z : ([D.str "raised", D.str "operation"]).length ≤ lim := by
      show 2 ≤ lim
      decide
    have hmet : metR "told" [⟨[("InvalidJobs", true), ("InvalidOperation", false)], ["raised", "jobs"]⟩, ⟨[("InvalidJobs", false), ("InvalidOperation", true)], ["raised", "operation"]⟩] (.exc "InvalidOperation" .non M) = .ok (.tup [.str "raised", .str "operation"]) M := by
      show (match metH [⟨[("InvalidJobs", true), ("InvalidOperation", false)], ["raised", "jobs"]⟩, ⟨[("InvalidJobs", false), ("InvalidOperation", true)], ["raised", "operation"]⟩] "InvalidOperation" with | some rs => R.ok (D.tup (rs.map .str)) M | none => .bad) = _
      have e : metH [⟨[("InvalidJobs", true), ("InvalidOperation", false)], ["raised", "jobs"]⟩, ⟨[("InvalidJobs", false), ("InvalidOperation", true)], ["raised", "operation"]⟩] "InvalidOperation" = some (["raised", "operation"] : List PySem.Str) := by decide +kernel
      rw [e]
      rfl
    have heq := eq_raised M
    generalize lsD ls = d at *
    generalize D.str (if false = true then "True" else "False") = st1 at *
    unfold b26_3
    rw [seq_next (L1 := [x0, x1, some d, x3, x4, some v, some (.int m), some (.int hi), x8, x9, x10, x11, x12, x13, some (.bl false), x15, x16, x17, x18]) (M1 := M) (by simp only [x_nil, x_cons, x_asg, x_ex, x_ret, x_ite, x_for, x_setI, x_aug, x_raise, e_var, e_lit, e_bin, e_neg, e_cmp, e_chain, e_and, e_or, e_not, e_ite, e_tru, e_tup, e_new, e_call, e_blt, e_mth, e_idx, e_slc, e_rev, p_nil, p_cons, es_nil, es_cons, c_nil, c_cons, n_disp, n_comp, n_comp2, n_listOf, n_listRg, n_sorted, n_dict0, i_seq, i_range, i_enum, i_zip, clOf_call', cl_call, clOf_hi2, clOf_lower2, R.bind_ok, R.bind_exc, R.then_ok, R.then_exc, R.nx_ok, RS.seq_next, RS.seq_ret, RS.seq_exc, ofO_some, asg_name, asg_tup2, wipe_nil, wipe_cons, truth_bl, cont_ref, cont_tup, cont_lst, cont_scr, cont_int, cont_bl, cont_non, cont_str, cont_dct, bin_int, in_add, in_sub, cmp_lt, cmp_le, cmp_gt, cmp_ge, cmp_isnBl, cmp_eqI, cmp_neI, cmp_eqB, cmp_neB, at_0, at_1, at_2, fin_ret, fin_next, fin_keep, fin_exc, clean_int, clean_bl, clean_non, seq_tup, seq_lst, List.getElem?_cons_zero, List.getElem?_cons_succ, List.set_cons_zero, List.set_cons_succ, Option.map_some, List.map_cons, List.map_nil, if_true, if_false, Bool.false_eq_true, Bool.not_true, Bool.not_false, Bool.and_true, Bool.true_and, Bool.false_and, decide_true, decide_false, List.replicate, List.append, List.nil_append, List.cons_append, q23])]
    rw [seq_next (L1 := [x0, x1, some d, x3, x4, some v, some (.int m), some (.int hi), x8, x9, x10, x11, x12, x13, some (.bl false), x15, x16, x17, x18]) (M1 := M) (by simp only [x_nil, x_cons, x_asg, x_ex, x_ret, x_ite, x_for, x_setI, x_aug, x_raise, e_var, e_lit, e_bin, e_neg, e_cmp, e_chain, e_and, e_or, e_not, e_ite, e_tru, e_tup, e_new, e_call, e_blt, e_mth, e_idx, e_slc, e_rev, p_nil, p_cons, es_nil, es_cons, c_nil, c_cons, n_disp, n_comp, n_comp2, n_listOf, n_listRg, n_sorted, n_dict0, i_seq, i_range, i_enum, i_zip, clOf_call', cl_call, clOf_hi2, clOf_lower2, R.bind_ok, R.bind_exc, R.then_ok, R.then_exc, R.nx_ok, RS.seq_next, RS.seq_ret, RS.seq_exc, ofO_some, asg_name, asg_tup2, wipe_nil, wipe_cons, truth_bl, cont_ref, cont_tup, cont_lst, cont_scr, cont_int, cont_bl, cont_non, cont_str, cont_dct, bin_int, in_add, in_sub, cmp_lt, cmp_le, cmp_gt, cmp_ge, cmp_isnBl, cmp_eqI, cmp_neI, cmp_eqB, cmp_neB, at_0, at_1, at_2, fin_ret, fin_next, fin_keep, fin_exc, clean_int, clean_bl, clean_non, seq_tup, seq_lst, List.getElem?_cons_zero, List.getElem?_cons_succ, List.set_cons_zero, List.set_cons_succ, Option.map_some, List.map_cons, List.map_nil, if_true, if_false, Bool.false_eq_true, Bool.not_true, Bool.not_false, Bool.and_true, Bool.true_and, Bool.false_and, decide_true, decide_false, List.replicate, List.append, List.nil_append, List.cons_append, q13, hrep, hne])]
    rw [seq_next (L1 := [x0, x1, some d, x3, x4, some v, some (.int m), some (.int hi), x8, x9, x10, x11, x12, x13, some (.bl false), some (.tup [.str "raised", .str "operation"]), x16, x17, x18]) (M1 := M) (by simp only [x_nil, x_cons, x_asg, x_ex, x_ret, x_ite, x_for, x_setI, x_aug, x_raise, e_var, e_lit, e_bin, e_neg, e_cmp, e_chain, e_and, e_or, e_not, e_ite, e_tru, e_tup, e_new, e_call, e_blt, e_mth, e_idx, e_slc, e_rev, p_nil, p_cons, es_nil, es_cons, c_nil, c_cons, n_disp, n_comp, n_comp2, n_listOf, n_listRg, n_sorted, n_dict0, i_seq, i_range, i_enum, i_zip, clOf_call', cl_call, clOf_hi2, clOf_lower2, R.bind_ok, R.bind_exc, R.then_ok, R.then_exc, R.nx_ok, RS.seq_next, RS.seq_ret, RS.seq_exc, ofO_some, asg_name, asg_tup2, wipe_nil, wipe_cons, truth_bl, cont_ref, cont_tup, cont_lst, cont_scr, cont_int, cont_bl, cont_non, cont_str, cont_dct, bin_int, in_add, in_sub, cmp_lt, cmp_le, cmp_gt, cmp_ge, cmp_isnBl, cmp_eqI, cmp_neI, cmp_eqB, cmp_neB, at_0, at_1, at_2, fin_ret, fin_next, fin_keep, fin_exc, clean_int, clean_bl, clean_non, seq_tup, seq_lst, List.getElem?_cons_zero, List.getElem?_cons_succ, List.set_cons_zero, List.set_cons_succ, Option.map_some, List.map_cons, List.map_nil, if_true, if_false, Bool.false_eq_true, Bool.not_true, Bool.not_false, Bool.and_true, Bool.true_and, Bool.false_and, decide_true, decide_false, List.replicate, List.append, List.nil_append, List.cons_append, z])]
    have hm14 : evE (clOf T 0 (k + 6)) (.met "told" [⟨[("InvalidJobs", true), ("InvalidOperation", false)], ["raised", "jobs"]⟩, ⟨[("InvalidJobs", false), ("InvalidOperation", true)], ["raised", "operation"]⟩] (.call 14 (.cons (.var 2) (.cons (.var 7) (.cons (.var 5) .nil))))) [x0, x1, some d, x3, x4, some v, some (.int m), some (.int hi), x8, x9, x10, x11, x12, x13, some (.bl false), some (.tup [.str "raised", .str "operation"]), x16, x17, x18] M = .ok (.tup [.str "raised", .str "operation"]) M := by
      rw [e_met, clOf_hi2, if_pos rfl, clOf_lower2]
      have e : evE ⟨runF T 0 (k + 4), 0, fun _ _ _ => .bad, false⟩ (.call 14 (.cons (.var 2) (.cons (.var 7) (.cons (.var 5) .nil)))) [x0, x1, some d, x3, x4, some v, some (.int m), some (.int hi), x8, x9, x10, x11, x12, x13, some (.bl false), some (.tup [.str "raised", .str "operation"]), x16, x17, x18] M = .exc "InvalidOperation" .non M := by
        simp only [x_nil, x_cons, x_asg, x_ex, x_ret, x_ite, x_for, x_setI, x_aug, x_raise, e_var, e_lit, e_bin, e_neg, e_cmp, e_chain, e_and, e_or, e_not, e_ite, e_tru, e_tup, e_new, e_call, e_blt, e_mth, e_idx, e_slc, e_rev, p_nil, p_cons, es_nil, es_cons, c_nil, c_cons, n_disp, n_comp, n_comp2, n_listOf, n_listRg, n_sorted, n_dict0, i_seq, i_range, i_enum, i_zip, clOf_call', cl_call, clOf_hi2, clOf_lower2, R.bind_ok, R.bind_exc, R.then_ok, R.then_exc, R.nx_ok, RS.seq_next, RS.seq_ret, RS.seq_exc, ofO_some, asg_name, asg_tup2, wipe_nil, wipe_cons, truth_bl, cont_ref, cont_tup, cont_lst, cont_scr, cont_int, cont_bl, cont_non, cont_str, cont_dct, bin_int, in_add, in_sub, cmp_lt, cmp_le, cmp_gt, cmp_ge, cmp_isnBl, cmp_eqI, cmp_neI, cmp_eqB, cmp_neB, at_0, at_1, at_2, fin_ret, fin_next, fin_keep, fin_exc, clean_int, clean_bl, clean_non, seq_tup, seq_lst, List.getElem?_cons_zero, List.getElem?_cons_succ, List.set_cons_zero, List.set_cons_succ, Option.map_some, List.map_cons, List.map_nil, if_true, if_false, Bool.false_eq_true, Bool.not_true, Bool.not_false, Bool.and_true, Bool.true_and, Bool.false_and, decide_true, decide_false, List.replicate, List.append, List.nil_append, List.cons_append, q14]
      rw [e]
      exact hmet
    rw [seq_next (L1 := [x0, x1, some d, x3, x4, some v, some (.int m), some (.int hi), x8, x9, x10, x11, x12, x13, some (.bl false), some (.tup [.str "raised", .str "operation"]), x16, x17, x18]) (M1 := M) (by
      rw [x_ite, e_cmp, hm14]
      simp only [x_nil, x_cons, x_asg, x_ex, x_ret, x_ite, x_for, x_setI, x_aug, x_raise, e_var, e_lit, e_bin, e_neg, e_cmp, e_chain, e_and, e_or, e_not, e_ite, e_tru, e_tup, e_new, e_call, e_blt, e_mth, e_idx, e_slc, e_rev, p_nil, p_cons, es_nil, es_cons, c_nil, c_cons, n_disp, n_comp, n_comp2, n_listOf, n_listRg, n_sorted, n_dict0, i_seq, i_range, i_enum, i_zip, clOf_call', cl_call, clOf_hi2, clOf_lower2, R.bind_ok, R.bind_exc, R.then_ok, R.then_exc, R.nx_ok, RS.seq_next, RS.seq_ret, RS.seq_exc, ofO_some, asg_name, asg_tup2, wipe_nil, wipe_cons, truth_bl, cont_ref, cont_tup, cont_lst, cont_scr, cont_int, cont_bl, cont_non, cont_str, cont_dct, bin_int, in_add, in_sub, cmp_lt, cmp_le, cmp_gt, cmp_ge, cmp_isnBl, cmp_eqI, cmp_neI, cmp_eqB, cmp_neB, at_0, at_1, at_2, fin_ret, fin_next, fin_keep, fin_exc, clean_int, clean_bl, clean_non, seq_tup, seq_lst, List.getElem?_cons_zero, List.getElem?_cons_succ, List.set_cons_zero, List.set_cons_succ, Option.map_some, List.map_cons, List.map_nil, if_true, if_false, Bool.false_eq_true, Bool.not_true, Bool.not_false, Bool.and_true, Bool.true_and, Bool.false_and, decide_true, decide_false, List.replicate, List.append, List.nil_append, List.cons_append, heq])]
    rfl
  | true =>
    obtain ⟨rs, rfl, hlen, hr⟩ := rowsOk_is hb
    have q14 := c14 (T := T) k M ok h1 hl hh hE hv hb hr
    have q24 := c24 (T := T) (k + 5) (M := M) (ls := ls) (rv := rowsD rs) (wk := ⟨rs.map oD, none⟩) rfl rfl oD (fun _ => rfl) rfl hr
    rw [hb] at q23 q13 hrep hne
    refine ⟨some (.bl true), some (.tup [.str "told", .int (costs ls rs)]), ?_⟩
    have z : ([D.str "told", D.int (costs ls rs)]).length ≤ lim := by
      show 2 ≤ lim
      decide
    have heq := eq_told M (costs ls rs)
    generalize costs ls rs = cc at *
    generalize lsD ls = d at *
    generalize rowsD rs = v at *
    generalize D.str (if true = true then "True" else "False") = st1 at *
    unfold b26_3
    rw [seq_next (L1 := [x0, x1, some d, x3, x4, some v, some (.int m), some (.int hi), x8, x9, x10, x11, x12, x13, some (.bl true), x15, x16, x17, x18]) (M1 := M) (by simp only [x_nil, x_cons, x_asg, x_ex, x_ret, x_ite, x_for, x_setI, x_aug, x_raise, e_var, e_lit, e_bin, e_neg, e_cmp, e_chain, e_and, e_or, e_not, e_ite, e_tru, e_tup, e_new, e_call, e_blt, e_mth, e_idx, e_slc, e_rev, p_nil, p_cons, es_nil, es_cons, c_nil, c_cons, n_disp, n_comp, n_comp2, n_listOf, n_listRg, n_sorted, n_dict0, i_seq, i_range, i_enum, i_zip, clOf_call', cl_call, clOf_hi2, clOf_lower2, R.bind_ok, R.bind_exc, R.then_ok, R.then_exc, R.nx_ok, RS.seq_next, RS.seq_ret, RS.seq_exc, ofO_some, asg_name, asg_tup2, wipe_nil, wipe_cons, truth_bl, cont_ref, cont_tup, cont_lst, cont_scr, cont_int, cont_bl, cont_non, cont_str, cont_dct, bin_int, in_add, in_sub, cmp_lt, cmp_le, cmp_gt, cmp_ge, cmp_isnBl, cmp_eqI, cmp_neI, cmp_eqB, cmp_neB, at_0, at_1, at_2, fin_ret, fin_next, fin_keep, fin_exc, clean_int, clean_bl, clean_non, seq_tup, seq_lst, List.getElem?_cons_zero, List.getElem?_cons_succ, List.set_cons_zero, List.set_cons_succ, Option.map_some, List.map_cons, List.map_nil, if_true, if_false, Bool.false_eq_true, Bool.not_true, Bool.not_false, Bool.and_true, Bool.true_and, Bool.false_and, decide_true, decide_false, List.replicate, List.append, List.nil_append, List.cons_append, q23])]
    rw [seq_next (L1 := [x0, x1, some d, x3, x4, some v, some (.int m), some (.int hi), x8, x9, x10, x11, x12, x13, some (.bl true), x15, x16, x17, x18]) (M1 := M) (by simp only [x_nil, x_cons, x_asg, x_ex, x_ret, x_ite, x_for, x_setI, x_aug, x_raise, e_var, e_lit, e_bin, e_neg, e_cmp, e_chain, e_and, e_or, e_not, e_ite, e_tru, e_tup, e_new, e_call, e_blt, e_mth, e_idx, e_slc, e_rev, p_nil, p_cons, es_nil, es_cons, c_nil, c_cons, n_disp, n_comp, n_comp2, n_listOf, n_listRg, n_sorted, n_dict0, i_seq, i_range, i_enum, i_zip, clOf_call', cl_call, clOf_hi2, clOf_lower2, R.bind_ok, R.bind_exc, R.then_ok, R.then_exc, R.nx_ok, RS.seq_next, RS.seq_ret, RS.seq_exc, ofO_some, asg_name, asg_tup2, wipe_nil, wipe_cons, truth_bl, cont_ref, cont_tup, cont_lst, cont_scr, cont_int, cont_bl, cont_non, cont_str, cont_dct, bin_int, in_add, in_sub, cmp_lt, cmp_le, cmp_gt, cmp_ge, cmp_isnBl, cmp_eqI, cmp_neI, cmp_eqB, cmp_neB, at_0, at_1, at_2, fin_ret, fin_next, fin_keep, fin_exc, clean_int, clean_bl, clean_non, seq_tup, seq_lst, List.getElem?_cons_zero, List.getElem?_cons_succ, List.set_cons_zero, List.set_cons_succ, Option.map_some, List.map_cons, List.map_nil, if_true, if_false, Bool.false_eq_true, Bool.not_true, Bool.not_false, Bool.and_true, Bool.true_and, Bool.false_and, decide_true, decide_false, List.replicate, List.append, List.nil_append, List.cons_append, q13, hrep, hne])]
    rw [seq_next (L1 := [x0, x1, some d, x3, x4, some v, some (.int m), some (.int hi), x8, x9, x10, x11, x12, x13, some (.bl true), some (.tup [.str "told", .int cc]), x16, x17, x18]) (M1 := M) (by simp only [x_nil, x_cons, x_asg, x_ex, x_ret, x_ite, x_for, x_setI, x_aug, x_raise, e_var, e_lit, e_bin, e_neg, e_cmp, e_chain, e_and, e_or, e_not, e_ite, e_tru, e_tup, e_new, e_call, e_blt, e_mth, e_idx, e_slc, e_rev, p_nil, p_cons, es_nil, es_cons, c_nil, c_cons, n_disp, n_comp, n_comp2, n_listOf, n_listRg, n_sorted, n_dict0, i_seq, i_range, i_enum, i_zip, clOf_call', cl_call, clOf_hi2, clOf_lower2, R.bind_ok, R.bind_exc, R.then_ok, R.then_exc, R.nx_ok, RS.seq_next, RS.seq_ret, RS.seq_exc, ofO_some, asg_name, asg_tup2, wipe_nil, wipe_cons, truth_bl, cont_ref, cont_tup, cont_lst, cont_scr, cont_int, cont_bl, cont_non, cont_str, cont_dct, bin_int, in_add, in_sub, cmp_lt, cmp_le, cmp_gt, cmp_ge, cmp_isnBl, cmp_eqI, cmp_neI, cmp_eqB, cmp_neB, at_0, at_1, at_2, fin_ret, fin_next, fin_keep, fin_exc, clean_int, clean_bl, clean_non, seq_tup, seq_lst, List.getElem?_cons_zero, List.getElem?_cons_succ, List.set_cons_zero, List.set_cons_succ, Option.map_some, List.map_cons, List.map_nil, if_true, if_false, Bool.false_eq_true, Bool.not_true, Bool.not_false, Bool.and_true, Bool.true_and, Bool.false_and, decide_true, decide_false, List.replicate, List.append, List.nil_append, List.cons_append, q24, z])]
    have hm14 : evE (clOf T 0 (k + 6)) (.met "told" [⟨[("InvalidJobs", true), ("InvalidOperation", false)], ["raised", "jobs"]⟩, ⟨[("InvalidJobs", false), ("InvalidOperation", true)], ["raised", "operation"]⟩] (.call 14 (.cons (.var 2) (.cons (.var 7) (.cons (.var 5) .nil))))) [x0, x1, some d, x3, x4, some v, some (.int m), some (.int hi), x8, x9, x10, x11, x12, x13, some (.bl true), some (.tup [.str "told", .int cc]), x16, x17, x18] M = .ok (.tup [.str "told", .int cc]) M := by
      rw [e_met, clOf_hi2, if_pos rfl, clOf_lower2]
      have e : evE ⟨runF T 0 (k + 4), 0, fun _ _ _ => .bad, false⟩ (.call 14 (.cons (.var 2) (.cons (.var 7) (.cons (.var 5) .nil)))) [x0, x1, some d, x3, x4, some v, some (.int m), some (.int hi), x8, x9, x10, x11, x12, x13, some (.bl true), some (.tup [.str "told", .int cc]), x16, x17, x18] M = .ok (.int cc) M := by
        simp only [x_nil, x_cons, x_asg, x_ex, x_ret, x_ite, x_for, x_setI, x_aug, x_raise, e_var, e_lit, e_bin, e_neg, e_cmp, e_chain, e_and, e_or, e_not, e_ite, e_tru, e_tup, e_new, e_call, e_blt, e_mth, e_idx, e_slc, e_rev, p_nil, p_cons, es_nil, es_cons, c_nil, c_cons, n_disp, n_comp, n_comp2, n_listOf, n_listRg, n_sorted, n_dict0, i_seq, i_range, i_enum, i_zip, clOf_call', cl_call, clOf_hi2, clOf_lower2, R.bind_ok, R.bind_exc, R.then_ok, R.then_exc, R.nx_ok, RS.seq_next, RS.seq_ret, RS.seq_exc, ofO_some, asg_name, asg_tup2, wipe_nil, wipe_cons, truth_bl, cont_ref, cont_tup, cont_lst, cont_scr, cont_int, cont_bl, cont_non, cont_str, cont_dct, bin_int, in_add, in_sub, cmp_lt, cmp_le, cmp_gt, cmp_ge, cmp_isnBl, cmp_eqI, cmp_neI, cmp_eqB, cmp_neB, at_0, at_1, at_2, fin_ret, fin_next, fin_keep, fin_exc, clean_int, clean_bl, clean_non, seq_tup, seq_lst, List.getElem?_cons_zero, List.getElem?_cons_succ, List.set_cons_zero, List.set_cons_succ, Option.map_some, List.map_cons, List.map_nil, if_true, if_false, Bool.false_eq_true, Bool.not_true, Bool.not_false, Bool.and_true, Bool.true_and, Bool.false_and, decide_true, decide_false, List.replicate, List.append, List.nil_append, List.cons_append, q14]
      rw [e]
      rfl
    rw [seq_next (L1 := [x0, x1, some d, x3, x4, some v, some (.int m), some (.int hi), x8, x9, x10, x11, x12, x13, some (.bl true), some (.tup [.str "told", .int cc]), x16, x17, x18]) (M1 := M) (by
      rw [x_ite, e_cmp, hm14]
      simp only [x_nil, x_cons, x_asg, x_ex, x_ret, x_ite, x_for, x_setI, x_aug, x_raise, e_var, e_lit, e_bin, e_neg, e_cmp, e_chain, e_and, e_or, e_not, e_ite, e_tru, e_tup, e_new, e_call, e_blt, e_mth, e_idx, e_slc, e_rev, p_nil, p_cons, es_nil, es_cons, c_nil, c_cons, n_disp, n_comp, n_comp2, n_listOf, n_listRg, n_sorted, n_dict0, i_seq, i_range, i_enum, i_zip, clOf_call', cl_call, clOf_hi2, clOf_lower2, R.bind_ok, R.bind_exc, R.then_ok, R.then_exc, R.nx_ok, RS.seq_next, RS.seq_ret, RS.seq_exc, ofO_some, asg_name, asg_tup2, wipe_nil, wipe_cons, truth_bl, cont_ref, cont_tup, cont_lst, cont_scr, cont_int, cont_bl, cont_non, cont_str, cont_dct, bin_int, in_add, in_sub, cmp_lt, cmp_le, cmp_gt, cmp_ge, cmp_isnBl, cmp_eqI, cmp_neI, cmp_eqB, cmp_neB, at_0, at_1, at_2, fin_ret, fin_next, fin_keep, fin_exc, clean_int, clean_bl, clean_non, seq_tup, seq_lst, List.getElem?_cons_zero, List.getElem?_cons_succ, List.set_cons_zero, List.set_cons_succ, Option.map_some, List.map_cons, List.map_nil, if_true, if_false, Bool.false_eq_true, Bool.not_true, Bool.not_false, Bool.and_true, Bool.true_and, Bool.false_and, decide_true, decide_false, List.replicate, List.append, List.nil_append, List.cons_append, heq])]
    rfl
end K77
namespace K77
open MP Z76 Z77 EW
variable {T : List FD} [Tb T]
theorem drip_n (k : Nat) {M : List D} {e : Nat} {b : Int} (he : e < M.length) (a c : Int) {total : Int} (h0 : 0 < total) (h1 : total < 1000000) : ∃ (r : Nat) (a' c' : Int), (r : Int) < total ∧ runF T 0 (k + 1) 18 [.ref e, .int total] (M.set e (ewr a b c)) = .ok (.int (r : Int)) (M.set e (ewr a' b c')) := by
  have hM : (M.set e (ewr a b c))[e]? = some (ewr a b c) := List.getElem?_set_self he
  obtain ⟨r, a', c', h2, h3, q⟩ := drip (T := T) t18 k hM h0 h1
  rw [List.set_set] at q
  obtain ⟨m, rfl⟩ : ∃ m : Nat, r = (m : Int) := ⟨r.toNat, by omega⟩
  exact ⟨m, a', c', h3, q⟩
theorem set_is {M : List D} {e : Nat} {x : D} (h : M[e]? = some x) : M.set e x = M := by
  apply List.ext_getElem?
  intro i
  by_cases hi : e = i
  · subst hi
    rw [List.getElem?_set_self (List.getElem?_eq_some_iff.mp h).1, h]
  · rw [List.getElem?_set_ne hi]
/-- the values of a case -/
def vals0 (R : List (List Nat)) (h : Nat) : List D := [rowsD R, .lst (R.map oD), .tup ((R.map oD).drop 1), .tup (R.map oD ++ [.tup []]), .tup (R.map oD).reverse, .tup [], .non, .int 0, .dct [], .tup (List.replicate h [oD (R.getD 0 [])]).flatten, .tup (List.replicate h [D.tup []]).flatten]
theorem rep_one (h : Nat) (d : D) : (List.replicate h [d]).flatten = List.replicate h d := by
  induction h with
  | zero => rfl
  | succ h ih => rw [List.replicate_succ, List.flatten_cons, ih]; rfl
theorem vals0_ok {R : List (List Nat)} {h : Nat} (q : Rs R h) : ∀ v ∈ vals0 R h, okV v := by
  have hlen : (R.map oD).length ≤ 4 := by
    rw [List.length_map, q.len]
    exact q.hh.2
  have e0 : K77.okR (.tup []) := okR_tup rfl (Nat.zero_le _)
  intro v hv
  simp only [vals0, List.mem_cons, List.not_mem_nil, or_false] at hv
  rcases hv with rfl | rfl | rfl | rfl | rfl | rfl | rfl | rfl | rfl | rfl | rfl
  · exact okV_tup (by omega) q.okR
  · exact okV_lst _
  · exact okV_tup (by rw [List.length_drop]; omega) fun d hd => q.okR d (List.mem_of_mem_drop hd)
  · refine okV_tup (by rw [List.length_append]; simp at hlen ⊢; omega) fun d hd => ?_
    rcases List.mem_append.mp hd with z | z
    · exact q.okR d z
    · simp at z
      rw [z]
      exact e0
  · exact okV_tup (by rw [List.length_reverse]; omega) fun d hd => q.okR d (List.mem_reverse.mp hd)
  · exact okV_tup (Nat.zero_le _) fun _ h => nomatch h
  · exact okV_non
  · exact okV_int 0
  · exact okV_dct []
  · rw [rep_one]
    refine okV_tup (by rw [List.length_replicate]; have := q.hh.2; omega) fun d hd => ?_
    rw [(List.mem_replicate.mp hd).2]
    exact okR_oD (by have := q.short _ (q.get (j := 0) (by have := q.hh.1; omega)); omega)
  · rw [rep_one]
    refine okV_tup (by rw [List.length_replicate]; have := q.hh.2; omega) fun d hd => ?_
    rw [(List.mem_replicate.mp hd).2]
    exact e0
theorem mul_t (M : List D) (d : D) {h : Nat} {hi : Int} (hE : hi = (h : Int)) (hh : 1 ≤ h ∧ h ≤ 4) : binS M .mul (.tup [d]) (.int hi) = some (.tup (List.replicate h [d]).flatten) := by
  show (if Bop.mul = .mul ∧ [d] ≠ [] ∧ 1 ≤ hi ∧ hi ≤ 1000 ∧ [d].length ≤ 1000 then some (D.tup (List.replicate hi.toNat [d]).flatten) else none) = _
  rw [if_pos ⟨rfl, by simp, by omega, by omega, by simp⟩, hE]
  rfl
theorem rows_short (ls : List Int) {h : Nat} (hh : 1 ≤ h ∧ h ≤ 4) (hl : ls.length ≤ 9) : Rs (rows ls h) h := by
  refine ⟨rows_len ls h, hh, fun r hr => ?_⟩
  have h1 := (rows_perm ls hh.1).length_eq
  rw [List.length_range] at h1
  have h2 : r.length ≤ (rows ls h).flatten.length := (List.sublist_flatten_of_mem hr).length_le
  omega
abbrev bDue : E := .orE (.cmp .ne (.call 16 (.cons (.var 2) (.cons (.var 7) .nil))) (.var 8)) (.notE (.tru (.call 23 (.cons (.var 6) (.cons (.var 7) (.cons (.var 9) .nil))))))
/-- up to the values: lengths are drawn, sums and rows are told -/
theorem c26_ok (k : Nat) {M : List D} {ls : List Int} (ok : Okl ls) (h1 : 1 ≤ ls.length) (hl : ls.length ≤ 5) {m : Int} (hm : m = (ls.length : Nat)) {h : Nat} (hh : 1 ≤ h ∧ h ≤ 3) {hi : Int} (hE : hi = (h : Int)) (x0 x1 : Option D) (rest : Ss) :
    exSs (clOf T 0 (k + 6)) (.cons (.asg (.tup [8, 9]) (.tup (.cons (.call 25 (.cons (.var 2) (.cons (.var 7) .nil))) (.cons (.call 15 (.cons (.var 2) (.cons (.var 7) .nil))) .nil)))) (.cons (.ite (.orE (.cmp .ne (.call 16 (.cons (.var 2) (.cons (.var 7) .nil))) (.var 8)) (.notE (.tru (.call 23 (.cons (.var 6) (.cons (.var 7) (.cons (.var 9) .nil))))))) (.cons (.ret (.lit (.bl false))) .nil) .nil) (.cons (.ite (.cmp .ne (.call 24 (.cons (.var 2) (.cons (.var 9) .nil))) (.var 8)) (.cons (.ret (.lit (.bl false))) .nil) .nil)
      (.cons (.ite (.orE (.cmp .isn (.call 13 (.cons (.var 2) (.cons (.var 7) (.cons (.var 9) .nil)))) (.lit (.bl true))) (.cmp .ne (.call 14 (.cons (.var 2) (.cons (.var 7) (.cons (.var 9) .nil)))) (.var 8))) (.cons (.ret (.lit (.bl false))) .nil) .nil) (.cons (.ite (.andE (.cmp .eq (.var 7) (.lit (.int 1))) (.cmp .ne (.call 12 (.cons (.blt .tuple (.cons (.new true (.comp [17] (.tup (.cons (.var 17) (.cons (.lit (.int 1)) .nil))) (.name 17) (.seq (.var 2)) .nil)) .nil)) .nil)) (.var 8))) (.cons (.ret (.lit (.bl false))) .nil) .nil)
      (.cons (.ite (.andE (.cmp .gt (.var 7) (.lit (.int 1))) (.cmp .lt (.call 16 (.cons (.var 2) (.cons (.bin .sub (.var 7) (.lit (.int 1))) .nil))) (.var 8))) (.cons (.ret (.lit (.bl false))) .nil) .nil) rest)))))) [x0, x1, some (lsD ls), none, none, none, some (.int m), some (.int hi), none, none, none, none, none, none, none, none, none, none, none] M =
    exSs (clOf T 0 (k + 6)) rest [x0, x1, some (lsD ls), none, none, none, some (.int m), some (.int hi), some (.int (hs h 0 (DD ls))), some (rowsD (rows ls h)), none, none, none, none, none, none, none, none, none] M := by
  have h4 : 1 ≤ h ∧ h ≤ 4 := ⟨hh.1, by omega⟩
  have hl9 : ls.length ≤ 9 := by omega
  have hR := rows_short ls h4 hl9
  have hv : okV (rowsD (rows ls h)) := okV_tup (by rw [List.length_map, hR.len]; omega) hR.okR
  have hyes : rowsOk ls.length h (rowsD (rows ls h)) = true := rowsOk_good hR.len (rows_perm ls hh.1)
  have hr : ∀ r ∈ rows ls h, ∀ i ∈ r, i < ls.length := fun r hr i hi' => by
    have := (rows_perm ls hh.1).mem_iff.mp (List.mem_flatten.mpr ⟨r, hr, hi'⟩)
    exact List.mem_range.mp this
  have q25 := c25 (T := T) (k + 3) M ok hl hh hE
  have q15 := c15 (T := T) (k + 1) M ok h1 hl9 h4 hE
  have q16 := c16 (T := T) (k + 1) M ok h1 hl9 h4 hE
  have q23 := c23 (T := T) (k + 3) M hl9 hm hE hv
  rw [hyes] at q23
  have q24 := c24 (T := T) (k + 5) (M := M) (ls := ls) (rv := rowsD (rows ls h)) (wk := ⟨(rows ls h).map oD, none⟩) rfl rfl oD (fun _ => rfl) rfl hr
  rw [rows_costs ls h4] at q24
  have q13 := c13 (T := T) (k + 2) M ok h1 hl9 h4 hE hv
  rw [hyes] at q13
  have q14 := c14 (T := T) (k + 2) M ok h1 hl9 h4 hE hv hyes hr
  rw [rows_costs ls h4] at q14
  have z : ([D.int (hs h 0 (DD ls)), rowsD (rows ls h)]).length ≤ lim := by
    show 2 ≤ lim
    decide
  rw [seq_next (L1 := [x0, x1, some (lsD ls), none, none, none, some (.int m), some (.int hi), some (.int (hs h 0 (DD ls))), some (rowsD (rows ls h)), none, none, none, none, none, none, none, none, none]) (M1 := M) (by
    generalize hs h 0 (DD ls) = due at *
    generalize rowsD (rows ls h) = rd at *
    generalize lsD ls = d at *
    simp only [x_nil, x_cons, x_asg, x_ex, x_ret, x_ite, x_for, x_setI, x_aug, x_raise, e_var, e_lit, e_bin, e_neg, e_cmp, e_chain, e_and, e_or, e_not, e_ite, e_tru, e_tup, e_new, e_call, e_blt, e_mth, e_idx, e_slc, e_rev, p_nil, p_cons, es_nil, es_cons, c_nil, c_cons, n_disp, n_comp, n_comp2, n_listOf, n_listRg, n_sorted, n_dict0, i_seq, i_range, i_enum, i_zip, clOf_call', cl_call, clOf_hi2, clOf_lower2, R.bind_ok, R.bind_exc, R.then_ok, R.then_exc, R.nx_ok, RS.seq_next, RS.seq_ret, RS.seq_exc, ofO_some, asg_name, asg_tup2, wipe_nil, wipe_cons, truth_bl, cont_ref, cont_tup, cont_lst, cont_scr, cont_int, cont_bl, cont_non, cont_str, cont_dct, bin_int, in_add, in_sub, cmp_lt, cmp_le, cmp_gt, cmp_ge, cmp_isnBl, cmp_eqI, cmp_neI, cmp_eqB, cmp_neB, at_0, at_1, at_2, fin_ret, fin_next, fin_keep, fin_exc, clean_int, clean_bl, clean_non, seq_tup, seq_lst, List.getElem?_cons_zero, List.getElem?_cons_succ, List.set_cons_zero, List.set_cons_succ, Option.map_some, List.map_cons, List.map_nil, if_true, if_false, Bool.false_eq_true, Bool.not_true, Bool.not_false, Bool.and_true, Bool.true_and, Bool.false_and, decide_true, decide_false, List.replicate, List.append, List.nil_append, List.cons_append, q25, q15, z])]
  rw [seq_next (L1 := [x0, x1, some (lsD ls), none, none, none, some (.int m), some (.int hi), some (.int (hs h 0 (DD ls))), some (rowsD (rows ls h)), none, none, none, none, none, none, none, none, none]) (M1 := M) (by
    generalize hs h 0 (DD ls) = due at *
    generalize rowsD (rows ls h) = rd at *
    generalize lsD ls = d at *
    simp only [x_nil, x_cons, x_asg, x_ex, x_ret, x_ite, x_for, x_setI, x_aug, x_raise, e_var, e_lit, e_bin, e_neg, e_cmp, e_chain, e_and, e_or, e_not, e_ite, e_tru, e_tup, e_new, e_call, e_blt, e_mth, e_idx, e_slc, e_rev, p_nil, p_cons, es_nil, es_cons, c_nil, c_cons, n_disp, n_comp, n_comp2, n_listOf, n_listRg, n_sorted, n_dict0, i_seq, i_range, i_enum, i_zip, clOf_call', cl_call, clOf_hi2, clOf_lower2, R.bind_ok, R.bind_exc, R.then_ok, R.then_exc, R.nx_ok, RS.seq_next, RS.seq_ret, RS.seq_exc, ofO_some, asg_name, asg_tup2, wipe_nil, wipe_cons, truth_bl, cont_ref, cont_tup, cont_lst, cont_scr, cont_int, cont_bl, cont_non, cont_str, cont_dct, bin_int, in_add, in_sub, cmp_lt, cmp_le, cmp_gt, cmp_ge, cmp_isnBl, cmp_eqI, cmp_neI, cmp_eqB, cmp_neB, at_0, at_1, at_2, fin_ret, fin_next, fin_keep, fin_exc, clean_int, clean_bl, clean_non, seq_tup, seq_lst, List.getElem?_cons_zero, List.getElem?_cons_succ, List.set_cons_zero, List.set_cons_succ, Option.map_some, List.map_cons, List.map_nil, if_true, if_false, Bool.false_eq_true, Bool.not_true, Bool.not_false, Bool.and_true, Bool.true_and, Bool.false_and, decide_true, decide_false, List.replicate, List.append, List.nil_append, List.cons_append, q16, q23])]
  rw [seq_next (L1 := [x0, x1, some (lsD ls), none, none, none, some (.int m), some (.int hi), some (.int (hs h 0 (DD ls))), some (rowsD (rows ls h)), none, none, none, none, none, none, none, none, none]) (M1 := M) (by
    generalize hs h 0 (DD ls) = due at *
    generalize rowsD (rows ls h) = rd at *
    generalize lsD ls = d at *
    simp only [x_nil, x_cons, x_asg, x_ex, x_ret, x_ite, x_for, x_setI, x_aug, x_raise, e_var, e_lit, e_bin, e_neg, e_cmp, e_chain, e_and, e_or, e_not, e_ite, e_tru, e_tup, e_new, e_call, e_blt, e_mth, e_idx, e_slc, e_rev, p_nil, p_cons, es_nil, es_cons, c_nil, c_cons, n_disp, n_comp, n_comp2, n_listOf, n_listRg, n_sorted, n_dict0, i_seq, i_range, i_enum, i_zip, clOf_call', cl_call, clOf_hi2, clOf_lower2, R.bind_ok, R.bind_exc, R.then_ok, R.then_exc, R.nx_ok, RS.seq_next, RS.seq_ret, RS.seq_exc, ofO_some, asg_name, asg_tup2, wipe_nil, wipe_cons, truth_bl, cont_ref, cont_tup, cont_lst, cont_scr, cont_int, cont_bl, cont_non, cont_str, cont_dct, bin_int, in_add, in_sub, cmp_lt, cmp_le, cmp_gt, cmp_ge, cmp_isnBl, cmp_eqI, cmp_neI, cmp_eqB, cmp_neB, at_0, at_1, at_2, fin_ret, fin_next, fin_keep, fin_exc, clean_int, clean_bl, clean_non, seq_tup, seq_lst, List.getElem?_cons_zero, List.getElem?_cons_succ, List.set_cons_zero, List.set_cons_succ, Option.map_some, List.map_cons, List.map_nil, if_true, if_false, Bool.false_eq_true, Bool.not_true, Bool.not_false, Bool.and_true, Bool.true_and, Bool.false_and, decide_true, decide_false, List.replicate, List.append, List.nil_append, List.cons_append, q24])]
  rw [seq_next (L1 := [x0, x1, some (lsD ls), none, none, none, some (.int m), some (.int hi), some (.int (hs h 0 (DD ls))), some (rowsD (rows ls h)), none, none, none, none, none, none, none, none, none]) (M1 := M) (by
    generalize hs h 0 (DD ls) = due at *
    generalize rowsD (rows ls h) = rd at *
    generalize lsD ls = d at *
    simp only [x_nil, x_cons, x_asg, x_ex, x_ret, x_ite, x_for, x_setI, x_aug, x_raise, e_var, e_lit, e_bin, e_neg, e_cmp, e_chain, e_and, e_or, e_not, e_ite, e_tru, e_tup, e_new, e_call, e_blt, e_mth, e_idx, e_slc, e_rev, p_nil, p_cons, es_nil, es_cons, c_nil, c_cons, n_disp, n_comp, n_comp2, n_listOf, n_listRg, n_sorted, n_dict0, i_seq, i_range, i_enum, i_zip, clOf_call', cl_call, clOf_hi2, clOf_lower2, R.bind_ok, R.bind_exc, R.then_ok, R.then_exc, R.nx_ok, RS.seq_next, RS.seq_ret, RS.seq_exc, ofO_some, asg_name, asg_tup2, wipe_nil, wipe_cons, truth_bl, cont_ref, cont_tup, cont_lst, cont_scr, cont_int, cont_bl, cont_non, cont_str, cont_dct, bin_int, in_add, in_sub, cmp_lt, cmp_le, cmp_gt, cmp_ge, cmp_isnBl, cmp_eqI, cmp_neI, cmp_eqB, cmp_neB, at_0, at_1, at_2, fin_ret, fin_next, fin_keep, fin_exc, clean_int, clean_bl, clean_non, seq_tup, seq_lst, List.getElem?_cons_zero, List.getElem?_cons_succ, List.set_cons_zero, List.set_cons_succ, Option.map_some, List.map_cons, List.map_nil, if_true, if_false, Bool.false_eq_true, Bool.not_true, Bool.not_false, Bool.and_true, Bool.true_and, Bool.false_and, decide_true, decide_false, List.replicate, List.append, List.nil_append, List.cons_append, q13, q14])]
  rw [seq_next (L1 := [x0, x1, some (lsD ls), none, none, none, some (.int m), some (.int hi), some (.int (hs h 0 (DD ls))), some (rowsD (rows ls h)), none, none, none, none, none, none, none, none, none]) (M1 := M) (by
    by_cases e1 : hi = 1
    · have eh : h = 1 := by omega
      subst eh
      have q12 := c12 (T := T) (k + 2) M ok h1 hl9
      have hc1 := comp_ones (clOf T 0 (k + 6)) M ls 17 [x0, x1, some (lsD ls), none, none, none, some (.int m), some (.int hi), some (.int (hs 1 0 (DD ls))), some (rowsD (rows ls 1)), none, none, none, none, none, none, none, none, none] (by show 17 < 19; decide) (Nat.le_trans hl9 (by decide))
      have hlim : (ls.map D.int).length ≤ lim := by
        rw [List.length_map]
        exact Nat.le_trans hl9 (by decide)
      have hn1 : evN (clOf T 0 (k + 6)) (.comp [17] (.tup (.cons (.var 17) (.cons (.lit (.int 1)) .nil))) (.name 17) (.seq (.var 2)) .nil) [x0, x1, some (lsD ls), none, none, none, some (.int m), some (.int hi), some (.int (hs 1 0 (DD ls))), some (rowsD (rows ls 1)), none, none, none, none, none, none, none, none, none] M = .ok (.lst ((ones ls).map encT)) M := by
        rw [n_comp]
        have hi1 : evI (clOf T 0 (k + 6)) (.seq (.var 2)) [x0, x1, some (lsD ls), none, none, none, some (.int m), some (.int hi), some (.int (hs 1 0 (DD ls))), some (rowsD (rows ls 1)), none, none, none, none, none, none, none, none, none] M = .ok ⟨ls.map D.int, none⟩ M := rfl
        rw [hi1, R.bind_ok, if_pos hlim]
        show ((compL _ _ [x0, x1, some (lsD ls), none, none, none, some (.int m), some (.int hi), some (.int (hs 1 0 (DD ls))), some (rowsD (rows ls 1)), none, none, none, none, none, none, none, none, none] _ _ (ls.map D.int) M).nx).bind _ = _
        rw [hc1]
        rfl
      have htup : bltS M .tuple [.lst ((ones ls).map encT)] = some (tsD (ones ls)) := rfl
      have ed : decide (hi = 1) = true := decide_eq_true e1
      generalize hs 1 0 (DD ls) = due at *
      generalize rowsD (rows ls 1) = rd at *
      generalize tsD (ones ls) = td at *
      generalize (ones ls).map encT = tl at *
      generalize lsD ls = d at *
      have hcond : evE (clOf T 0 (k + 6)) (.cmp .ne (.call 12 (.cons (.blt .tuple (.cons (.new true (.comp [17] (.tup (.cons (.var 17) (.cons (.lit (.int 1)) .nil))) (.name 17) (.seq (.var 2)) .nil)) .nil)) .nil)) (.var 8)) [x0, x1, some d, none, none, none, some (.int m), some (.int hi), some (.int due), some rd, none, none, none, none, none, none, none, none, none] M = .ok (.bl false) M := by
        rw [e_cmp, e_call, es_cons, e_blt, es_cons, e_new, hn1]
        simp only [x_nil, x_cons, x_asg, x_ex, x_ret, x_ite, x_for, x_setI, x_aug, x_raise, e_var, e_lit, e_bin, e_neg, e_cmp, e_chain, e_and, e_or, e_not, e_ite, e_tru, e_tup, e_new, e_call, e_blt, e_mth, e_idx, e_slc, e_rev, p_nil, p_cons, es_nil, es_cons, c_nil, c_cons, n_disp, n_comp, n_comp2, n_listOf, n_listRg, n_sorted, n_dict0, i_seq, i_range, i_enum, i_zip, clOf_call', cl_call, clOf_hi2, clOf_lower2, R.bind_ok, R.bind_exc, R.then_ok, R.then_exc, R.nx_ok, RS.seq_next, RS.seq_ret, RS.seq_exc, ofO_some, asg_name, asg_tup2, wipe_nil, wipe_cons, truth_bl, cont_ref, cont_tup, cont_lst, cont_scr, cont_int, cont_bl, cont_non, cont_str, cont_dct, bin_int, in_add, in_sub, cmp_lt, cmp_le, cmp_gt, cmp_ge, cmp_isnBl, cmp_eqI, cmp_neI, cmp_eqB, cmp_neB, at_0, at_1, at_2, fin_ret, fin_next, fin_keep, fin_exc, clean_int, clean_bl, clean_non, seq_tup, seq_lst, List.getElem?_cons_zero, List.getElem?_cons_succ, List.set_cons_zero, List.set_cons_succ, Option.map_some, List.map_cons, List.map_nil, if_true, if_false, Bool.false_eq_true, Bool.not_true, Bool.not_false, Bool.and_true, Bool.true_and, Bool.false_and, decide_true, decide_false, List.replicate, List.append, List.nil_append, List.cons_append, htup, q12]
      have hc7 : evE (clOf T 0 (k + 6)) (.cmp .eq (.var 7) (.lit (.int 1))) [x0, x1, some d, none, none, none, some (.int m), some (.int hi), some (.int due), some rd, none, none, none, none, none, none, none, none, none] M = .ok (.bl true) M := by
        simp only [x_nil, x_cons, x_asg, x_ex, x_ret, x_ite, x_for, x_setI, x_aug, x_raise, e_var, e_lit, e_bin, e_neg, e_cmp, e_chain, e_and, e_or, e_not, e_ite, e_tru, e_tup, e_new, e_call, e_blt, e_mth, e_idx, e_slc, e_rev, p_nil, p_cons, es_nil, es_cons, c_nil, c_cons, n_disp, n_comp, n_comp2, n_listOf, n_listRg, n_sorted, n_dict0, i_seq, i_range, i_enum, i_zip, clOf_call', cl_call, clOf_hi2, clOf_lower2, R.bind_ok, R.bind_exc, R.then_ok, R.then_exc, R.nx_ok, RS.seq_next, RS.seq_ret, RS.seq_exc, ofO_some, asg_name, asg_tup2, wipe_nil, wipe_cons, truth_bl, cont_ref, cont_tup, cont_lst, cont_scr, cont_int, cont_bl, cont_non, cont_str, cont_dct, bin_int, in_add, in_sub, cmp_lt, cmp_le, cmp_gt, cmp_ge, cmp_isnBl, cmp_eqI, cmp_neI, cmp_eqB, cmp_neB, at_0, at_1, at_2, fin_ret, fin_next, fin_keep, fin_exc, clean_int, clean_bl, clean_non, seq_tup, seq_lst, List.getElem?_cons_zero, List.getElem?_cons_succ, List.set_cons_zero, List.set_cons_succ, Option.map_some, List.map_cons, List.map_nil, if_true, if_false, Bool.false_eq_true, Bool.not_true, Bool.not_false, Bool.and_true, Bool.true_and, Bool.false_and, decide_true, decide_false, List.replicate, List.append, List.nil_append, List.cons_append, ed]
      rw [x_ite, e_and, hc7]
      simp only [R.bind_ok, R.then_ok, truth_bl, ofO_some, if_true, Bool.false_eq_true, if_false, hcond, x_nil]
    · have ed : decide (hi = 1) = false := decide_eq_false e1
      generalize hs h 0 (DD ls) = due at *
      generalize rowsD (rows ls h) = rd at *
      generalize lsD ls = d at *
      have hc7 : evE (clOf T 0 (k + 6)) (.cmp .eq (.var 7) (.lit (.int 1))) [x0, x1, some d, none, none, none, some (.int m), some (.int hi), some (.int due), some rd, none, none, none, none, none, none, none, none, none] M = .ok (.bl false) M := by
        simp only [x_nil, x_cons, x_asg, x_ex, x_ret, x_ite, x_for, x_setI, x_aug, x_raise, e_var, e_lit, e_bin, e_neg, e_cmp, e_chain, e_and, e_or, e_not, e_ite, e_tru, e_tup, e_new, e_call, e_blt, e_mth, e_idx, e_slc, e_rev, p_nil, p_cons, es_nil, es_cons, c_nil, c_cons, n_disp, n_comp, n_comp2, n_listOf, n_listRg, n_sorted, n_dict0, i_seq, i_range, i_enum, i_zip, clOf_call', cl_call, clOf_hi2, clOf_lower2, R.bind_ok, R.bind_exc, R.then_ok, R.then_exc, R.nx_ok, RS.seq_next, RS.seq_ret, RS.seq_exc, ofO_some, asg_name, asg_tup2, wipe_nil, wipe_cons, truth_bl, cont_ref, cont_tup, cont_lst, cont_scr, cont_int, cont_bl, cont_non, cont_str, cont_dct, bin_int, in_add, in_sub, cmp_lt, cmp_le, cmp_gt, cmp_ge, cmp_isnBl, cmp_eqI, cmp_neI, cmp_eqB, cmp_neB, at_0, at_1, at_2, fin_ret, fin_next, fin_keep, fin_exc, clean_int, clean_bl, clean_non, seq_tup, seq_lst, List.getElem?_cons_zero, List.getElem?_cons_succ, List.set_cons_zero, List.set_cons_succ, Option.map_some, List.map_cons, List.map_nil, if_true, if_false, Bool.false_eq_true, Bool.not_true, Bool.not_false, Bool.and_true, Bool.true_and, Bool.false_and, decide_true, decide_false, List.replicate, List.append, List.nil_append, List.cons_append, ed]
      rw [x_ite, e_and, hc7]
      simp only [x_nil, x_cons, x_asg, x_ex, x_ret, x_ite, x_for, x_setI, x_aug, x_raise, e_var, e_lit, e_bin, e_neg, e_cmp, e_chain, e_and, e_or, e_not, e_ite, e_tru, e_tup, e_new, e_call, e_blt, e_mth, e_idx, e_slc, e_rev, p_nil, p_cons, es_nil, es_cons, c_nil, c_cons, n_disp, n_comp, n_comp2, n_listOf, n_listRg, n_sorted, n_dict0, i_seq, i_range, i_enum, i_zip, clOf_call', cl_call, clOf_hi2, clOf_lower2, R.bind_ok, R.bind_exc, R.then_ok, R.then_exc, R.nx_ok, RS.seq_next, RS.seq_ret, RS.seq_exc, ofO_some, asg_name, asg_tup2, wipe_nil, wipe_cons, truth_bl, cont_ref, cont_tup, cont_lst, cont_scr, cont_int, cont_bl, cont_non, cont_str, cont_dct, bin_int, in_add, in_sub, cmp_lt, cmp_le, cmp_gt, cmp_ge, cmp_isnBl, cmp_eqI, cmp_neI, cmp_eqB, cmp_neB, at_0, at_1, at_2, fin_ret, fin_next, fin_keep, fin_exc, clean_int, clean_bl, clean_non, seq_tup, seq_lst, List.getElem?_cons_zero, List.getElem?_cons_succ, List.set_cons_zero, List.set_cons_succ, Option.map_some, List.map_cons, List.map_nil, if_true, if_false, Bool.false_eq_true, Bool.not_true, Bool.not_false, Bool.and_true, Bool.true_and, Bool.false_and, decide_true, decide_false, List.replicate, List.append, List.nil_append, List.cons_append])]
  rw [seq_next (L1 := [x0, x1, some (lsD ls), none, none, none, some (.int m), some (.int hi), some (.int (hs h 0 (DD ls))), some (rowsD (rows ls h)), none, none, none, none, none, none, none, none, none]) (M1 := M) (by
    by_cases e1 : 1 < hi
    · obtain ⟨h', rfl⟩ : ∃ h', h = h' + 1 := ⟨h - 1, by omega⟩
      have q16' := c16 (T := T) (k + 1) M ok h1 hl9 (h := h') (by omega) (hi := hi - 1) (by omega)
      have hle := hs_more (h := h') (by omega) (DD ls) 0 fun x hx => by have := (DD_ok ok x hx).1; omega
      have ed : decide (1 < hi) = true := decide_eq_true e1
      have el : decide (hs h' 0 (DD ls) < hs (h' + 1) 0 (DD ls)) = false := decide_eq_false (by omega)
      generalize hs (h' + 1) 0 (DD ls) = due at *
      generalize hs h' 0 (DD ls) = due' at *
      generalize rowsD (rows ls (h' + 1)) = rd at *
      generalize lsD ls = d at *
      simp only [x_nil, x_cons, x_asg, x_ex, x_ret, x_ite, x_for, x_setI, x_aug, x_raise, e_var, e_lit, e_bin, e_neg, e_cmp, e_chain, e_and, e_or, e_not, e_ite, e_tru, e_tup, e_new, e_call, e_blt, e_mth, e_idx, e_slc, e_rev, p_nil, p_cons, es_nil, es_cons, c_nil, c_cons, n_disp, n_comp, n_comp2, n_listOf, n_listRg, n_sorted, n_dict0, i_seq, i_range, i_enum, i_zip, clOf_call', cl_call, clOf_hi2, clOf_lower2, R.bind_ok, R.bind_exc, R.then_ok, R.then_exc, R.nx_ok, RS.seq_next, RS.seq_ret, RS.seq_exc, ofO_some, asg_name, asg_tup2, wipe_nil, wipe_cons, truth_bl, cont_ref, cont_tup, cont_lst, cont_scr, cont_int, cont_bl, cont_non, cont_str, cont_dct, bin_int, in_add, in_sub, cmp_lt, cmp_le, cmp_gt, cmp_ge, cmp_isnBl, cmp_eqI, cmp_neI, cmp_eqB, cmp_neB, at_0, at_1, at_2, fin_ret, fin_next, fin_keep, fin_exc, clean_int, clean_bl, clean_non, seq_tup, seq_lst, List.getElem?_cons_zero, List.getElem?_cons_succ, List.set_cons_zero, List.set_cons_succ, Option.map_some, List.map_cons, List.map_nil, if_true, if_false, Bool.false_eq_true, Bool.not_true, Bool.not_false, Bool.and_true, Bool.true_and, Bool.false_and, decide_true, decide_false, List.replicate, List.append, List.nil_append, List.cons_append, ed, q16', el]
    · have ed : decide (1 < hi) = false := decide_eq_false e1
      generalize hs h 0 (DD ls) = due at *
      generalize rowsD (rows ls h) = rd at *
      generalize lsD ls = d at *
      simp only [x_nil, x_cons, x_asg, x_ex, x_ret, x_ite, x_for, x_setI, x_aug, x_raise, e_var, e_lit, e_bin, e_neg, e_cmp, e_chain, e_and, e_or, e_not, e_ite, e_tru, e_tup, e_new, e_call, e_blt, e_mth, e_idx, e_slc, e_rev, p_nil, p_cons, es_nil, es_cons, c_nil, c_cons, n_disp, n_comp, n_comp2, n_listOf, n_listRg, n_sorted, n_dict0, i_seq, i_range, i_enum, i_zip, clOf_call', cl_call, clOf_hi2, clOf_lower2, R.bind_ok, R.bind_exc, R.then_ok, R.then_exc, R.nx_ok, RS.seq_next, RS.seq_ret, RS.seq_exc, ofO_some, asg_name, asg_tup2, wipe_nil, wipe_cons, truth_bl, cont_ref, cont_tup, cont_lst, cont_scr, cont_int, cont_bl, cont_non, cont_str, cont_dct, bin_int, in_add, in_sub, cmp_lt, cmp_le, cmp_gt, cmp_ge, cmp_isnBl, cmp_eqI, cmp_neI, cmp_eqB, cmp_neB, at_0, at_1, at_2, fin_ret, fin_next, fin_keep, fin_exc, clean_int, clean_bl, clean_non, seq_tup, seq_lst, List.getElem?_cons_zero, List.getElem?_cons_succ, List.set_cons_zero, List.set_cons_succ, Option.map_some, List.map_cons, List.map_nil, if_true, if_false, Bool.false_eq_true, Bool.not_true, Bool.not_false, Bool.and_true, Bool.true_and, Bool.false_and, decide_true, decide_false, List.replicate, List.append, List.nil_append, List.cons_append, ed])]
end K77
namespace K77
open MP Z76 Z77 EW
variable {T : List FD} [Tb T]
/-- what is drawn -/
theorem c26_a (k : Nat) {M : List D} {e : Nat} {a b c : Int} (hM : M[e]? = some (ewr a b c)) (rest : Ss) : ∃ (ls : List Int) (h : Nat) (a' c' : Int) (x1 : Option D), Okl ls ∧ 1 ≤ ls.length ∧ ls.length ≤ 5 ∧ (1 ≤ h ∧ h ≤ 3) ∧
    exSs (clOf T 0 (k + 6)) (.cons (.asg (.tup [6, 7]) (.tup (.cons (.bin .add (.lit (.int 1)) (.call 18 (.cons (.var 0) (.cons (.lit (.int 5)) .nil)))) (.cons (.bin .add (.lit (.int 1)) (.call 18 (.cons (.var 0) (.cons (.lit (.int 3)) .nil)))) .nil)))) (.cons (.asg (.name 1) (.call 19 (.cons (.var 0) (.cons (.new true (.disp (.cons (.lit (.int 3)) (.cons (.lit (.int 20)) (.cons (.lit (.int 99)) .nil))))) .nil)))) (.cons (.asg (.name 2) (.blt .tuple (.cons (.new true (.comp [4] (.bin .add (.lit (.int 1)) (.call 18 (.cons (.var 0) (.cons (.var 1) .nil)))) (.name 4) (.range (.lit (.int 0)) (.var 6)) .nil)) .nil))) rest))) [some (.ref e), none, none, none, none, none, none, none, none, none, none, none, none, none, none, none, none, none, none] M =
    exSs (clOf T 0 (k + 6)) rest [some (.ref e), x1, some (lsD ls), none, none, none, some (.int ((ls.length : Nat) : Int)), some (.int (h : Int)), none, none, none, none, none, none, none, none, none, none, none] (M.set e (ewr a' b c')) := by
  have he : e < M.length := (List.getElem?_eq_some_iff.mp hM).1
  obtain ⟨n0, a1, c1, hn, q1⟩ := drip_n (T := T) (k + 5) (b := b) he a c (total := 5) (by decide) (by decide)
  rw [set_is hM] at q1
  obtain ⟨h0, a2, c2, hh, q2⟩ := drip_n (T := T) (k + 5) (b := b) he a1 c1 (total := 3) (by decide) (by decide)
  have hM2 : (M.set e (ewr a2 b c2))[e]? = some (ewr a2 b c2) := List.getElem?_set_self he
  obtain ⟨most, a3, c3, hmost, q3⟩ := sip (T := T) t19 t18 (k + 4) hM2 (l := [3, 20, 99]) (by decide) (by decide)
  rw [List.set_set] at q3
  have q3' : runF T 0 (k + 6) 19 [.ref e, .lst [.int 3, .int 20, .int 99]] (M.set e (ewr a2 b c2)) = .ok (.int most) (M.set e (ewr a3 b c3)) := q3
  clear q3
  have hmo : 0 < most ∧ most ≤ 99 := by
    simp at hmost
    omega
  obtain ⟨zs, M3, w1, ⟨a4, c4, rfl⟩, w3, w4⟩ := compL_inv (w := ⟨rgL 0 ((n0 + 1 : Nat) : Int), none⟩) (tg := .name 4) (L := [some (.ref e), some (.int most), none, none, none, none, some (.int ((n0 + 1 : Nat) : Int)), some (.int ((h0 + 1 : Nat) : Int)), none, none, none, none, none, none, none, none, none, none, none]) (cl := clOf T 0 (k + 6))
    (elt := evE (clOf T 0 (k + 6)) (.bin .add (.lit (.int 1)) (.call 18 (.cons (.var 0) (.cons (.var 1) .nil))))) (fun M' => ∃ a c, M' = M.set e (ewr a b c)) (fun z => ∃ i : Int, z = .int i ∧ 1 ≤ i ∧ i ≤ 99) (fun i : Nat => D.int (i : Int)) (fun _ _ => rfl) (List.range (n0 + 1)) (M.set e (ewr a3 b c3)) ⟨a3, c3, rfl⟩ (fun x _ M' hM' => by
      obtain ⟨a5, c5, rfl⟩ := hM'
      obtain ⟨r, a6, c6, hr, qd⟩ := drip_n (T := T) (k + 5) (b := b) he a5 c5 (total := most) (by omega) (by omega)
      refine ⟨[some (.ref e), some (.int most), none, none, some (.int (x : Int)), none, some (.int ((n0 + 1 : Nat) : Int)), some (.int ((h0 + 1 : Nat) : Int)), none, none, none, none, none, none, none, none, none, none, none], rfl, .int (1 + (r : Int)), M.set e (ewr a6 b c6), ?_, ⟨a6, c6, rfl⟩, 1 + (r : Int), rfl, by omega, by omega⟩
      generalize (r : Int) = rr at *
      generalize (x : Int) = xx at *
      generalize ((n0 + 1 : Nat) : Int) = nn at *
      generalize ((h0 + 1 : Nat) : Int) = h1 at *
      generalize M.set e (ewr a5 b c5) = M5 at *
      generalize M.set e (ewr a6 b c6) = M6 at *
      simp only [x_nil, x_cons, x_asg, x_ex, x_ret, x_ite, x_for, x_setI, x_aug, x_raise, e_var, e_lit, e_bin, e_neg, e_cmp, e_chain, e_and, e_or, e_not, e_ite, e_tru, e_tup, e_new, e_call, e_blt, e_mth, e_idx, e_slc, e_rev, p_nil, p_cons, es_nil, es_cons, c_nil, c_cons, n_disp, n_comp, n_comp2, n_listOf, n_listRg, n_sorted, n_dict0, i_seq, i_range, i_enum, i_zip, clOf_call', cl_call, clOf_hi2, clOf_lower2, R.bind_ok, R.bind_exc, R.then_ok, R.then_exc, R.nx_ok, RS.seq_next, RS.seq_ret, RS.seq_exc, ofO_some, asg_name, asg_tup2, wipe_nil, wipe_cons, truth_bl, cont_ref, cont_tup, cont_lst, cont_scr, cont_int, cont_bl, cont_non, cont_str, cont_dct, bin_int, in_add, in_sub, cmp_lt, cmp_le, cmp_gt, cmp_ge, cmp_isnBl, cmp_eqI, cmp_neI, cmp_eqB, cmp_neB, at_0, at_1, at_2, fin_ret, fin_next, fin_keep, fin_exc, clean_int, clean_bl, clean_non, seq_tup, seq_lst, List.getElem?_cons_zero, List.getElem?_cons_succ, List.set_cons_zero, List.set_cons_succ, Option.map_some, List.map_cons, List.map_nil, if_true, if_false, Bool.false_eq_true, Bool.not_true, Bool.not_false, Bool.and_true, Bool.true_and, Bool.false_and, decide_true, decide_false, List.replicate, List.append, List.nil_append, List.cons_append, qd])
  rw [List.length_range] at w3
  obtain ⟨ls, rfl, hls⟩ := ints_of w4
  rw [List.length_map] at w3
  rw [← rgL_nat (many := ((n0 + 1 : Nat) : Int)) rfl] at w1
  have hlim : (rgL 0 ((n0 + 1 : Nat) : Int)).length ≤ lim := by
    rw [rgL_nat (n := n0 + 1) rfl, List.length_map, List.length_range]
    exact Nat.le_trans (show n0 + 1 ≤ 5 by omega) (by decide)
  have hrg : rgOk 0 ((n0 + 1 : Nat) : Int) = true := rg_ok ⟨by omega, by omega⟩
  refine ⟨ls, h0 + 1, a4, c4, some (.int most), hls, by omega, by omega, by omega, ?_⟩
  have hd : lsD ls = .tup (ls.map .int) := rfl
  have ht : bltS (M.set e (ewr a4 b c4)) .tuple [.lst (ls.map .int)] = some (lsD ls) := rfl
  have z2 : ([D.int ((n0 + 1 : Nat) : Int), D.int ((h0 + 1 : Nat) : Int)]).length ≤ lim := by
    show 2 ≤ lim
    decide
  have z3 : ([D.int 3, D.int 20, D.int 99]).length ≤ lim := by
    show 3 ≤ lim
    decide
  have i1 : intS .add 1 (n0 : Int) = some ((n0 + 1 : Nat) : Int) := by
    rw [in_add]
    exact congrArg some (by omega)
  have i2 : intS .add 1 (h0 : Int) = some ((h0 + 1 : Nat) : Int) := by
    rw [in_add]
    exact congrArg some (by omega)
  have b1 : ∀ M1 : List D, binS M1 .add (.int 1) (.int (n0 : Int)) = some (.int ((n0 + 1 : Nat) : Int)) := fun M1 => by
    rw [bin_int, i1]
    rfl
  have b2 : ∀ M1 : List D, binS M1 .add (.int 1) (.int (h0 : Int)) = some (.int ((h0 + 1 : Nat) : Int)) := fun M1 => by
    rw [bin_int, i2]
    rfl
  rw [w3]
  generalize lsD ls = d at *
  generalize (ls.map D.int) = dl at *
  generalize ((n0 + 1 : Nat) : Int) = nn at *
  generalize ((h0 + 1 : Nat) : Int) = h1 at *
  generalize (n0 : Int) = n1 at *
  generalize (h0 : Int) = h2 at *
  rw [seq_next (L1 := [some (.ref e), none, none, none, none, none, some (.int nn), some (.int h1), none, none, none, none, none, none, none, none, none, none, none]) (M1 := M.set e (ewr a2 b c2)) (by
    generalize M.set e (ewr a1 b c1) = M1 at *
    generalize M.set e (ewr a2 b c2) = M2 at *
    simp only [x_asg, e_tup, es_cons, es_nil, e_bin, e_lit, e_call, e_var, List.getElem?_cons_zero, R.bind_ok, clOf_call', cl_call, q1, q2, b1, b2, ofO_some, z2, if_true, R.then_ok, asg_tup2, List.set_cons_succ, List.set_cons_zero])]
  rw [seq_next (L1 := [some (.ref e), some (.int most), none, none, none, none, some (.int nn), some (.int h1), none, none, none, none, none, none, none, none, none, none, none]) (M1 := M.set e (ewr a3 b c3)) (by
    generalize M.set e (ewr a3 b c3) = M1 at *
    generalize M.set e (ewr a2 b c2) = M2 at *
    simp only [x_nil, x_cons, x_asg, x_ex, x_ret, x_ite, x_for, x_setI, x_aug, x_raise, e_var, e_lit, e_bin, e_neg, e_cmp, e_chain, e_and, e_or, e_not, e_ite, e_tru, e_tup, e_new, e_call, e_blt, e_mth, e_idx, e_slc, e_rev, p_nil, p_cons, es_nil, es_cons, c_nil, c_cons, n_disp, n_comp, n_comp2, n_listOf, n_listRg, n_sorted, n_dict0, i_seq, i_range, i_enum, i_zip, clOf_call', cl_call, clOf_hi2, clOf_lower2, R.bind_ok, R.bind_exc, R.then_ok, R.then_exc, R.nx_ok, RS.seq_next, RS.seq_ret, RS.seq_exc, ofO_some, asg_name, asg_tup2, wipe_nil, wipe_cons, truth_bl, cont_ref, cont_tup, cont_lst, cont_scr, cont_int, cont_bl, cont_non, cont_str, cont_dct, bin_int, in_add, in_sub, cmp_lt, cmp_le, cmp_gt, cmp_ge, cmp_isnBl, cmp_eqI, cmp_neI, cmp_eqB, cmp_neB, at_0, at_1, at_2, fin_ret, fin_next, fin_keep, fin_exc, clean_int, clean_bl, clean_non, seq_tup, seq_lst, List.getElem?_cons_zero, List.getElem?_cons_succ, List.set_cons_zero, List.set_cons_succ, Option.map_some, List.map_cons, List.map_nil, if_true, if_false, Bool.false_eq_true, Bool.not_true, Bool.not_false, Bool.and_true, Bool.true_and, Bool.false_and, decide_true, decide_false, List.replicate, List.append, List.nil_append, List.cons_append, z3, q3'])]
  rw [seq_next (L1 := [some (.ref e), some (.int most), some d, none, none, none, some (.int nn), some (.int h1), none, none, none, none, none, none, none, none, none, none, none]) (M1 := M.set e (ewr a4 b c4)) (by
    have hi1 := range_run (cl := clOf T 0 (k + 6)) (M := M.set e (ewr a3 b c3)) (L := [some (.ref e), some (.int most), none, none, none, none, some (.int nn), some (.int h1), none, none, none, none, none, none, none, none, none, none, none]) (a := .lit (.int 0)) (b := .var 6) (i := 0) (j := nn) rfl rfl hrg
    have hn1 : evN (clOf T 0 (k + 6)) (.comp [4] (.bin .add (.lit (.int 1)) (.call 18 (.cons (.var 0) (.cons (.var 1) .nil)))) (.name 4) (.range (.lit (.int 0)) (.var 6)) .nil) [some (.ref e), some (.int most), none, none, none, none, some (.int nn), some (.int h1), none, none, none, none, none, none, none, none, none, none, none] (M.set e (ewr a3 b c3)) = .ok (.lst dl) (M.set e (ewr a4 b c4)) := by
      rw [n_comp, hi1, R.bind_ok, if_pos hlim]
      show ((compL _ _ [some (.ref e), some (.int most), none, none, none, none, some (.int nn), some (.int h1), none, none, none, none, none, none, none, none, none, none, none] _ _ (rgL 0 nn) _).nx).bind _ = _
      rw [w1]
      rfl
    clear hi1
    generalize M.set e (ewr a4 b c4) = M1 at *
    generalize M.set e (ewr a3 b c3) = M2 at *
    rw [x_asg, e_blt, es_cons, e_new, hn1]
    simp only [x_nil, x_cons, x_asg, x_ex, x_ret, x_ite, x_for, x_setI, x_aug, x_raise, e_var, e_lit, e_bin, e_neg, e_cmp, e_chain, e_and, e_or, e_not, e_ite, e_tru, e_tup, e_new, e_call, e_blt, e_mth, e_idx, e_slc, e_rev, p_nil, p_cons, es_nil, es_cons, c_nil, c_cons, n_disp, n_comp, n_comp2, n_listOf, n_listRg, n_sorted, n_dict0, i_seq, i_range, i_enum, i_zip, clOf_call', cl_call, clOf_hi2, clOf_lower2, R.bind_ok, R.bind_exc, R.then_ok, R.then_exc, R.nx_ok, RS.seq_next, RS.seq_ret, RS.seq_exc, ofO_some, asg_name, asg_tup2, wipe_nil, wipe_cons, truth_bl, cont_ref, cont_tup, cont_lst, cont_scr, cont_int, cont_bl, cont_non, cont_str, cont_dct, bin_int, in_add, in_sub, cmp_lt, cmp_le, cmp_gt, cmp_ge, cmp_isnBl, cmp_eqI, cmp_neI, cmp_eqB, cmp_neB, at_0, at_1, at_2, fin_ret, fin_next, fin_keep, fin_exc, clean_int, clean_bl, clean_non, seq_tup, seq_lst, List.getElem?_cons_zero, List.getElem?_cons_succ, List.set_cons_zero, List.set_cons_succ, Option.map_some, List.map_cons, List.map_nil, if_true, if_false, Bool.false_eq_true, Bool.not_true, Bool.not_false, Bool.and_true, Bool.true_and, Bool.false_and, decide_true, decide_false, List.replicate, List.append, List.nil_append, List.cons_append, ht])]
end K77
namespace K77
open MP Z76 Z77 EW
variable {T : List FD} [Tb T]
theorem St_len {M : List D} {e : Nat} {b : Int} (a c : Int) (vs : List D) : (St M e b a c vs).length = M.length + 1 := by
  unfold St
  rw [List.length_append, List.length_set]
  rfl
/-- the rest: the values, and what is told of each -/
theorem c26_z (k : Nat) {M : List D} {e : Nat} {b : Int} (he : e < M.length) (a c : Int) {ls : List Int} (ok : Okl ls) (h1 : 1 ≤ ls.length) (hl : ls.length ≤ 5) {m : Int} (hm : m = ((ls.length : Nat) : Int)) {h : Nat} (hh : 1 ≤ h ∧ h ≤ 3) {hi : Int} (hE : hi = (h : Int)) (x1 x8 : Option D) :
    ∃ a' c' ws, exSs (clOf T 0 (k + 6)) (.cons (.asg (.name 3) (.new false (.disp (.cons (.var 9) (.cons (.new true (.listOf (.var 9))) (.cons (.slc (.var 9) (.cons (.lit (.int 1)) .nil) .nil) (.cons (.bin .add (.var 9) (.tup (.cons (.tup .nil) .nil))) (.cons (.rev (.var 9)) (.cons (.tup .nil) (.cons (.lit .non) (.cons (.lit (.int 0)) (.cons (.new true .dict0) (.cons (.bin .mul (.tup (.cons (.idx (.var 9) (.lit (.int 0))) .nil)) (.var 7)) (.cons (.bin .mul (.tup (.cons (.tup .nil) .nil)) (.var 7)) .nil)))))))))))))) (.cons (.«for» (.name 4) (.range (.lit (.int 0)) (.lit (.int 8))) b26_1) (.cons (.«for» (.name 4) (.range (.lit (.int 0)) (.lit (.int 6))) b26_2) (.cons (.«for» (.name 5) (.seq (.var 3)) b26_3) (.cons (.ret (.lit (.bl true))) .nil)))))
      [some (.ref e), x1, some (lsD ls), none, none, none, some (.int m), some (.int hi), x8, some (rowsD (rows ls h)), none, none, none, none, none, none, none, none, none] (M.set e (ewr a b c)) = .ret (.bl true) (St M e b a' c' ws) := by
  have h4 : 1 ≤ h ∧ h ≤ 4 := ⟨hh.1, by omega⟩
  have hl9 : ls.length ≤ 9 := by omega
  have hR := rows_short ls h4 hl9
  have hv0 := vals0_ok hR
  have hlen0 : (vals0 (rows ls h) h).length = 11 := rfl
  have hx : evN (clOf T 0 (k + 6)) (.disp (.cons (.var 9) (.cons (.new true (.listOf (.var 9))) (.cons (.slc (.var 9) (.cons (.lit (.int 1)) .nil) .nil) (.cons (.bin .add (.var 9) (.tup (.cons (.tup .nil) .nil))) (.cons (.rev (.var 9)) (.cons (.tup .nil) (.cons (.lit .non) (.cons (.lit (.int 0)) (.cons (.new true .dict0) (.cons (.bin .mul (.tup (.cons (.idx (.var 9) (.lit (.int 0))) .nil)) (.var 7)) (.cons (.bin .mul (.tup (.cons (.tup .nil) .nil)) (.var 7)) .nil)))))))))))) [some (.ref e), x1, some (lsD ls), none, none, none, some (.int m), some (.int hi), x8, some (rowsD (rows ls h)), none, none, none, none, none, none, none, none, none] (M.set e (ewr a b c)) = .ok (.lst (vals0 (rows ls h) h)) (M.set e (ewr a b c)) := by
    generalize M.set e (ewr a b c) = M1
    have e1 : cont M1 (rowsD (rows ls h)) = some (.tup ((rows ls h).map oD)) := rfl
    have e2 : slcS M1 (rowsD (rows ls h)) (some 1) none = some (.tup (((rows ls h).map oD).drop 1)) := slc_from M1 _ 1
    have e3 : binS M1 .add (rowsD (rows ls h)) (.tup [.tup []]) = some (.tup ((rows ls h).map oD ++ [.tup []])) := add_tt M1 _ _ (by
      rw [List.length_map, hR.len]
      exact Nat.le_trans (show h + 1 ≤ 5 by omega) (by decide))
    have e4 : revS M1 (rowsD (rows ls h)) = some (.tup ((rows ls h).map oD).reverse) := rfl
    have e5 : idxS M1 (rowsD (rows ls h)) (.int 0) = some (oD ((rows ls h).getD 0 [])) := idx_rows hR (j := 0) (by omega)
    have e6 := mul_t M1 (oD ((rows ls h).getD 0 [])) hE h4
    have e7 := mul_t M1 (.tup []) hE h4
    have z0 : ([] : List D).length ≤ lim := Nat.zero_le _
    have z1 : ∀ d : D, ([d]).length ≤ lim := fun d => by
      show 1 ≤ lim
      decide
    have z11 : (vals0 (rows ls h) h).length ≤ lim := by
      show 11 ≤ lim
      decide
    unfold vals0 at z11 ⊢
    generalize oD ((rows ls h).getD 0 []) = r0 at *
    generalize ((rows ls h).map oD) = rl at *
    generalize rowsD (rows ls h) = rd at *
    generalize (List.replicate h [r0]).flatten = p1 at *
    generalize (List.replicate h [D.tup []]).flatten = p2 at *
    generalize rl.drop 1 = p3 at *
    generalize rl.reverse = p4 at *
    generalize rl ++ [.tup []] = p5 at *
    rw [n_disp]
    simp only [x_nil, x_cons, x_asg, x_ex, x_ret, x_ite, x_for, x_setI, x_aug, x_raise, e_var, e_lit, e_bin, e_neg, e_cmp, e_chain, e_and, e_or, e_not, e_ite, e_tru, e_tup, e_new, e_call, e_blt, e_mth, e_idx, e_slc, e_rev, p_nil, p_cons, es_nil, es_cons, c_nil, c_cons, n_disp, n_comp, n_comp2, n_listOf, n_listRg, n_sorted, n_dict0, i_seq, i_range, i_enum, i_zip, clOf_call', cl_call, clOf_hi2, clOf_lower2, R.bind_ok, R.bind_exc, R.then_ok, R.then_exc, R.nx_ok, RS.seq_next, RS.seq_ret, RS.seq_exc, ofO_some, asg_name, asg_tup2, wipe_nil, wipe_cons, truth_bl, cont_ref, cont_tup, cont_lst, cont_scr, cont_int, cont_bl, cont_non, cont_str, cont_dct, bin_int, in_add, in_sub, cmp_lt, cmp_le, cmp_gt, cmp_ge, cmp_isnBl, cmp_eqI, cmp_neI, cmp_eqB, cmp_neB, at_0, at_1, at_2, fin_ret, fin_next, fin_keep, fin_exc, clean_int, clean_bl, clean_non, seq_tup, seq_lst, List.getElem?_cons_zero, List.getElem?_cons_succ, List.set_cons_zero, List.set_cons_succ, Option.map_some, List.map_cons, List.map_nil, if_true, if_false, Bool.false_eq_true, Bool.not_true, Bool.not_false, Bool.and_true, Bool.true_and, Bool.false_and, decide_true, decide_false, List.replicate, List.append, List.nil_append, List.cons_append, e1, e2, e3, e4, e5, e6, e7, z0, z1, z11]
  have hlm : (M.set e (ewr a b c)).length = M.length := List.length_set
  have hs0 : M.set e (ewr a b c) ++ [.lst (vals0 (rows ls h) h)] = St M e b a c (vals0 (rows ls h) h) := rfl
  generalize vals0 (rows ls h) h = vs0 at *
  -- the eight rows of odd values
  obtain ⟨L1, M1, f1, y4, y10, y11, y12, a1, c1, v1, rfl, rfl, n1, k1⟩ := forL_all (w := ⟨rgL 0 8, none⟩) (tg := .name 4) (body := exSs (clOf T 0 (k + 6)) b26_1) (L := [some (.ref e), x1, some (lsD ls), some (.ref M.length), none, none, some (.int m), some (.int hi), x8, some (rowsD (rows ls h)), none, none, none, none, none, none, none, none, none]) (M := St M e b a c vs0)
    (fun i L M' => ∃ y4 y10 y11 y12 a c vs, L = [some (.ref e), x1, some (lsD ls), some (.ref M.length), y4, none, some (.int m), some (.int hi), x8, some (rowsD (rows ls h)), y10, y11, y12, none, none, none, none, none, none] ∧ M' = St M e b a c vs ∧ vs.length = 11 + 8 * i ∧ ∀ v ∈ vs, okV v) ⟨none, none, none, none, a, c, vs0, rfl, rfl, hlen0, hv0⟩ (fun _ _ _ _ => rfl) (fun i x L M' hx p => by
      obtain ⟨y4, y10, y11, y12, a, c, vs, rfl, rfl, hn, hv⟩ := p
      have hi8 : i < 8 := (List.getElem?_eq_some_iff.mp hx).1
      obtain ⟨z10, z11, z12, a', c', ws, hw, hn', hv'⟩ := st26_1 (T := T) (k + 5) (b := b) he a c vs (by omega) hv hR hE m x1 (some (lsD ls)) (some x) none x8 y10 y11 y12 none none none none none none
      exact ⟨_, rfl, _, _, .inl hw, some x, z10, z11, z12, a', c', ws, rfl, rfl, by omega, hv'⟩)
  have n1' : v1.length = 75 := n1
  -- six orders over the spots
  obtain ⟨L2, M2, f2, z4, z13, a2, c2, v2, rfl, rfl, n2, k2⟩ := forL_all (w := ⟨rgL 0 6, none⟩) (tg := .name 4) (body := exSs (clOf T 0 (k + 6)) b26_2) (L := [some (.ref e), x1, some (lsD ls), some (.ref M.length), y4, none, some (.int m), some (.int hi), x8, some (rowsD (rows ls h)), y10, y11, y12, none, none, none, none, none, none]) (M := St M e b a1 c1 v1)
    (fun i L M' => ∃ y4 y13 a c vs, L = [some (.ref e), x1, some (lsD ls), some (.ref M.length), y4, none, some (.int m), some (.int hi), x8, some (rowsD (rows ls h)), y10, y11, y12, y13, none, none, none, none, none] ∧ M' = St M e b a c vs ∧ vs.length = 75 + i ∧ ∀ v ∈ vs, okV v) ⟨y4, none, a1, c1, v1, rfl, rfl, n1', k1⟩ (fun _ _ _ _ => rfl) (fun i x L M' hx p => by
      obtain ⟨y4, y13, a, c, vs, rfl, rfl, hn, hv⟩ := p
      have hi8 : i < 6 := (List.getElem?_eq_some_iff.mp hx).1
      obtain ⟨z13, a', c', ws, hw, hn', hv'⟩ := st26_2 (T := T) (k + 5) (b := b) he a c vs (by omega) hv hl9 hm h4 hE x1 (some x) none x8 (some (rowsD (rows ls h))) y10 y11 y12 y13 none none none none none
      exact ⟨_, rfl, _, _, .inl hw, some x, z13, a', c', ws, rfl, rfl, by omega, hv'⟩)
  -- each value is judged
  obtain ⟨L3, M3, f3, u5, u14, u15, rfl, rfl⟩ := forL_all (w := ⟨v2, some M.length⟩) (tg := .name 5) (body := exSs (clOf T 0 (k + 6)) b26_3) (L := [some (.ref e), x1, some (lsD ls), some (.ref M.length), z4, none, some (.int m), some (.int hi), x8, some (rowsD (rows ls h)), y10, y11, y12, z13, none, none, none, none, none]) (M := St M e b a2 c2 v2)
    (fun i L M' => ∃ y5 y14 y15, L = [some (.ref e), x1, some (lsD ls), some (.ref M.length), z4, y5, some (.int m), some (.int hi), x8, some (rowsD (rows ls h)), y10, y11, y12, z13, y14, y15, none, none, none] ∧ M' = St M e b a2 c2 v2) ⟨none, none, none, rfl, rfl⟩ (fun i L M' p => by
      obtain ⟨_, _, _, _, rfl⟩ := p
      show (match (St M e b a2 c2 v2)[M.length]? with | some (.lst l) => bqs l v2 | _ => false) = true
      rw [St_v]
      exact bqs_self v2) (fun i x L M' hx p => by
      obtain ⟨y5, y14, y15, rfl, rfl⟩ := p
      have hv := k2 x (List.mem_of_getElem? hx)
      obtain ⟨w14, w15, hw⟩ := st26_3 (T := T) k (St M e b a2 c2 v2) ok h1 hl9 hm h4 hE hv (some (.ref e)) x1 (some (.ref M.length)) z4 x8 (some (rowsD (rows ls h))) y10 y11 y12 z13 y14 y15 none none none
      exact ⟨_, rfl, _, _, .inl hw, some x, w14, w15, rfl, rfl⟩)
  refine ⟨a2, c2, v2, ?_⟩
  have hsq : seqS (St M e b a2 c2 v2) (.ref M.length) = some ⟨v2, some M.length⟩ := by
    unfold seqS
    simp only [St_v]
  rw [seq_next (L1 := [some (.ref e), x1, some (lsD ls), some (.ref M.length), none, none, some (.int m), some (.int hi), x8, some (rowsD (rows ls h)), none, none, none, none, none, none, none, none, none]) (M1 := St M e b a c vs0) (by
    rw [x_asg, e_new, hx, R.bind_ok, if_neg Bool.false_ne_true, hlm, hs0]
    rfl)]
  rw [seq_next (L1 := [some (.ref e), x1, some (lsD ls), some (.ref M.length), y4, none, some (.int m), some (.int hi), x8, some (rowsD (rows ls h)), y10, y11, y12, none, none, none, none, none, none]) (M1 := St M e b a1 c1 v1) (by
    rw [x_for, range_run (i := 0) (j := 8) rfl rfl (by decide)]
    exact f1)]
  rw [seq_next (L1 := [some (.ref e), x1, some (lsD ls), some (.ref M.length), z4, none, some (.int m), some (.int hi), x8, some (rowsD (rows ls h)), y10, y11, y12, z13, none, none, none, none, none]) (M1 := St M e b a2 c2 v2) (by
    rw [x_for, range_run (i := 0) (j := 6) rfl rfl (by decide)]
    exact f2)]
  rw [seq_next (L1 := [some (.ref e), x1, some (lsD ls), some (.ref M.length), z4, u5, some (.int m), some (.int hi), x8, some (rowsD (rows ls h)), y10, y11, y12, z13, u14, u15, none, none, none]) (M1 := St M e b a2 c2 v2) (by
    rw [x_for, i_seq, e_var]
    show (((R.ok (D.ref M.length) _).bind _).then _ _) = _
    rw [R.bind_ok, hsq]
    exact f3)]
  rfl
theorem c26 (k : Nat) {M : List D} {e : Nat} {a b c : Int} (hM : M[e]? = some (ewr a b c)) (hB : bels M.length M = true) : ∃ a' c', runF T 0 (k + 7) 26 [.ref e] M = .ok (.bl true) (M.set e (ewr a' b c')) := by
  have he : e < M.length := (List.getElem?_eq_some_iff.mp hM).1
  obtain ⟨ls, h, a1, c1, x1, ok, h1, hl, hh, q1⟩ := c26_a (T := T) k hM (.cons (.asg (.tup [8, 9]) (.tup (.cons (.call 25 (.cons (.var 2) (.cons (.var 7) .nil))) (.cons (.call 15 (.cons (.var 2) (.cons (.var 7) .nil))) .nil)))) (.cons (.ite bDue (.cons (.ret (.lit (.bl false))) .nil) .nil) (.cons (.ite (.cmp .ne (.call 24 (.cons (.var 2) (.cons (.var 9) .nil))) (.var 8)) (.cons (.ret (.lit (.bl false))) .nil) .nil)
      (.cons (.ite (.orE (.cmp .isn (.call 13 (.cons (.var 2) (.cons (.var 7) (.cons (.var 9) .nil)))) (.lit (.bl true))) (.cmp .ne (.call 14 (.cons (.var 2) (.cons (.var 7) (.cons (.var 9) .nil)))) (.var 8))) (.cons (.ret (.lit (.bl false))) .nil) .nil) (.cons (.ite (.andE (.cmp .eq (.var 7) (.lit (.int 1))) (.cmp .ne (.call 12 (.cons (.blt .tuple (.cons (.new true (.comp [17] (.tup (.cons (.var 17) (.cons (.lit (.int 1)) .nil))) (.name 17) (.seq (.var 2)) .nil)) .nil)) .nil)) (.var 8))) (.cons (.ret (.lit (.bl false))) .nil) .nil)
      (.cons (.ite (.andE (.cmp .gt (.var 7) (.lit (.int 1))) (.cmp .lt (.call 16 (.cons (.var 2) (.cons (.bin .sub (.var 7) (.lit (.int 1))) .nil))) (.var 8))) (.cons (.ret (.lit (.bl false))) .nil) .nil) (.cons (.asg (.name 3) (.new false (.disp (.cons (.var 9) (.cons (.new true (.listOf (.var 9))) (.cons (.slc (.var 9) (.cons (.lit (.int 1)) .nil) .nil) (.cons (.bin .add (.var 9) (.tup (.cons (.tup .nil) .nil))) (.cons (.rev (.var 9)) (.cons (.tup .nil) (.cons (.lit .non) (.cons (.lit (.int 0)) (.cons (.new true .dict0) (.cons (.bin .mul (.tup (.cons (.idx (.var 9) (.lit (.int 0))) .nil)) (.var 7)) (.cons (.bin .mul (.tup (.cons (.tup .nil) .nil)) (.var 7)) .nil)))))))))))))) (.cons (.«for» (.name 4) (.range (.lit (.int 0)) (.lit (.int 8))) b26_1) (.cons (.«for» (.name 4) (.range (.lit (.int 0)) (.lit (.int 6))) b26_2) (.cons (.«for» (.name 5) (.seq (.var 3)) b26_3) (.cons (.ret (.lit (.bl true))) .nil)))))))))))
  have q2 := c26_ok (T := T) k (M := M.set e (ewr a1 b c1)) ok h1 hl rfl hh rfl (some (.ref e)) x1 (.cons (.asg (.name 3) (.new false (.disp (.cons (.var 9) (.cons (.new true (.listOf (.var 9))) (.cons (.slc (.var 9) (.cons (.lit (.int 1)) .nil) .nil) (.cons (.bin .add (.var 9) (.tup (.cons (.tup .nil) .nil))) (.cons (.rev (.var 9)) (.cons (.tup .nil) (.cons (.lit .non) (.cons (.lit (.int 0)) (.cons (.new true .dict0) (.cons (.bin .mul (.tup (.cons (.idx (.var 9) (.lit (.int 0))) .nil)) (.var 7)) (.cons (.bin .mul (.tup (.cons (.tup .nil) .nil)) (.var 7)) .nil)))))))))))))) (.cons (.«for» (.name 4) (.range (.lit (.int 0)) (.lit (.int 8))) b26_1) (.cons (.«for» (.name 4) (.range (.lit (.int 0)) (.lit (.int 6))) b26_2) (.cons (.«for» (.name 5) (.seq (.var 3)) b26_3) (.cons (.ret (.lit (.bl true))) .nil)))))
  obtain ⟨a2, c2, ws, q3⟩ := c26_z (T := T) k he (b := b) a1 c1 ok h1 hl rfl hh rfl x1 (some (.int (hs h 0 (DD ls))))
  refine ⟨a2, c2, ?_⟩
  rw [run_eq (T_at 26) rfl]
  show fin false M (exSs (clOf T 0 (k + 6)) b26 [some (.ref e), none, none, none, none, none, none, none, none, none, none, none, none, none, none, none, none, none, none] M) = _
  have main : exSs (clOf T 0 (k + 6)) b26 [some (.ref e), none, none, none, none, none, none, none, none, none, none, none, none, none, none, none, none, none, none] M = .ret (.bl true) (St M e b a2 c2 ws) := (Eq.trans (by rfl) q1).trans (q2.trans q3)
  rw [main, fin_ret]
  exact clean_drop List.length_set (bels_set hB rfl) rfl
end K77
namespace K77
open MP Z76 Z77 EW
variable {T : List FD} [Tb T]
theorem st27_0 (k : Nat) {M : List D} {e : Nat} {a b c : Int} (hM : M[e]? = some (ewr a b c)) (hB : bels 0 M = true) (x0 x1 x2 x4 : Option D) :
    ∃ a' c', exSs (clOf T 0 (k + 7)) b27_0 [x0, x1, x2, some (.ref e), x4] M = .next [x0, x1, x2, some (.ref e), x4] (M.set e (ewr a' b c')) := by
  obtain ⟨a', c', q⟩ := c26 (T := T) k hM (bels_mono (Nat.zero_le _) _ hB)
  refine ⟨a', c', ?_⟩
  generalize M.set e (ewr a' b c') = M2 at *
  simp only [b27_0, x_nil, x_cons, x_asg, x_ex, x_ret, x_ite, x_for, x_setI, x_aug, x_raise, e_var, e_lit, e_bin, e_neg, e_cmp, e_chain, e_and, e_or, e_not, e_ite, e_tru, e_tup, e_new, e_call, e_blt, e_mth, e_idx, e_slc, e_rev, p_nil, p_cons, es_nil, es_cons, c_nil, c_cons, n_disp, n_comp, n_comp2, n_listOf, n_listRg, n_sorted, n_dict0, i_seq, i_range, i_enum, i_zip, clOf_call', cl_call, clOf_hi2, clOf_lower2, R.bind_ok, R.bind_exc, R.then_ok, R.then_exc, R.nx_ok, RS.seq_next, RS.seq_ret, RS.seq_exc, ofO_some, asg_name, asg_tup2, wipe_nil, wipe_cons, truth_bl, cont_ref, cont_tup, cont_lst, cont_scr, cont_int, cont_bl, cont_non, cont_str, cont_dct, bin_int, in_add, in_sub, cmp_lt, cmp_le, cmp_gt, cmp_ge, cmp_isnBl, cmp_eqI, cmp_neI, cmp_eqB, cmp_neB, at_0, at_1, at_2, fin_ret, fin_next, fin_keep, fin_exc, clean_int, clean_bl, clean_non, seq_tup, seq_lst, List.getElem?_cons_zero, List.getElem?_cons_succ, List.set_cons_zero, List.set_cons_succ, Option.map_some, List.map_cons, List.map_nil, if_true, if_false, Bool.false_eq_true, Bool.not_true, Bool.not_false, Bool.and_true, Bool.true_and, Bool.false_and, decide_true, decide_false, List.replicate, List.append, List.nil_append, List.cons_append, q]
theorem st27_1 (k : Nat) {M : List D} (hB : bels 0 M = true) (ns : List Int) (s : Nat) (x2 x3 x4 : Option D) :
    ∃ y3 y4 M', exSs (clOf T 0 (k + 7)) b27_1 [some (.scr (ns.map .int)), some (.int (s : Int)), x2, x3, x4] M = .next [some (.scr (ns.map .int)), some (.int (s : Int)), x2, y3, y4] M' ∧ bels 0 M' = true := by
  obtain ⟨a, b, q⟩ := ewer (T := T) t17 (k + 6) M ns s
  have hM : (M ++ [ewr a b 0])[M.length]? = some (ewr a b 0) := by
    rw [List.getElem?_append_right (Nat.le_refl _), Nat.sub_self]
    rfl
  have hB1 : bels 0 (M ++ [ewr a b 0]) = true := by
    rw [bels_iff] at hB ⊢
    intro d hd
    rcases List.mem_append.mp hd with z | z
    · exact hB d z
    · simp at z
      rw [z]
      rfl
  obtain ⟨L', M', h, y4, a', c', rfl, hM', hB', _⟩ := forL_all (w := ⟨rgL 0 4, none⟩) (tg := .name 4) (body := exSs (clOf T 0 (k + 7)) b27_0) (L := [some (.scr (ns.map .int)), some (.int (s : Int)), x2, some (.ref M.length), x4]) (M := M ++ [ewr a b 0])
    (fun i L M' => ∃ y4 a' c', L = [some (.scr (ns.map .int)), some (.int (s : Int)), x2, some (.ref M.length), y4] ∧ M'[M.length]? = some (ewr a' b c') ∧ bels 0 M' = true ∧ True) ⟨x4, a, 0, rfl, hM, hB1, trivial⟩ (fun _ _ _ _ => rfl) (fun i x L M' hx p => by
      obtain ⟨y4, a', c', rfl, hM', hB', _⟩ := p
      obtain ⟨a2, c2, h⟩ := st27_0 (T := T) k hM' hB' (some (.scr (ns.map .int))) (some (.int (s : Int))) x2 (some x)
      exact ⟨_, rfl, _, _, .inl h, some x, a2, c2, rfl, set_self hM', bels_set hB' rfl, trivial⟩)
  refine ⟨some (.ref M.length), y4, M', ?_, hB'⟩
  generalize (s : Int) = si at *
  unfold b27_1
  generalize D.scr (ns.map .int) = sc at *
  rw [seq_next (L1 := [some sc, some (.int si), x2, some (.ref M.length), x4]) (M1 := M ++ [ewr a b 0]) (by
    generalize M ++ [ewr a b 0] = M2 at *
    simp only [x_nil, x_cons, x_asg, x_ex, x_ret, x_ite, x_for, x_setI, x_aug, x_raise, e_var, e_lit, e_bin, e_neg, e_cmp, e_chain, e_and, e_or, e_not, e_ite, e_tru, e_tup, e_new, e_call, e_blt, e_mth, e_idx, e_slc, e_rev, p_nil, p_cons, es_nil, es_cons, c_nil, c_cons, n_disp, n_comp, n_comp2, n_listOf, n_listRg, n_sorted, n_dict0, i_seq, i_range, i_enum, i_zip, clOf_call', cl_call, clOf_hi2, clOf_lower2, R.bind_ok, R.bind_exc, R.then_ok, R.then_exc, R.nx_ok, RS.seq_next, RS.seq_ret, RS.seq_exc, ofO_some, asg_name, asg_tup2, wipe_nil, wipe_cons, truth_bl, cont_ref, cont_tup, cont_lst, cont_scr, cont_int, cont_bl, cont_non, cont_str, cont_dct, bin_int, in_add, in_sub, cmp_lt, cmp_le, cmp_gt, cmp_ge, cmp_isnBl, cmp_eqI, cmp_neI, cmp_eqB, cmp_neB, at_0, at_1, at_2, fin_ret, fin_next, fin_keep, fin_exc, clean_int, clean_bl, clean_non, seq_tup, seq_lst, List.getElem?_cons_zero, List.getElem?_cons_succ, List.set_cons_zero, List.set_cons_succ, Option.map_some, List.map_cons, List.map_nil, if_true, if_false, Bool.false_eq_true, Bool.not_true, Bool.not_false, Bool.and_true, Bool.true_and, Bool.false_and, decide_true, decide_false, List.replicate, List.append, List.nil_append, List.cons_append, q])]
  rw [seq_next (L1 := [some sc, some (.int si), x2, some (.ref M.length), y4]) (M1 := M') (by
    rw [x_for, range_run (i := 0) (j := 4) rfl rfl (by decide)]
    exact h)]
  rfl
theorem told_eq (M : List D) : cmpS M .eq (.lst [.int 7, .int 7, .int 5]) (.lst [.int 7, .int 7, .int 5]) = some true := by
  have h : eqS M (.lst [.int 7, .int 7, .int 5]) (.lst [.int 7, .int 7, .int 5]) = some true := by
    rw [eqS_of (a := .list [.int 7, .int 7, .int 5]) (b := .list [.int 7, .int 7, .int 5]) rfl rfl (by decide +kernel) (by decide +kernel)]
    decide +kernel
  exact h
theorem w312 : Okl [3, 1, 2] := by
  intro x hx
  simp at hx
  omega
theorem w5 : Okl [5] := by
  intro x hx
  simp at hx
  omega
theorem w99 : Okl (List.replicate 9 99) := by
  intro x hx
  rw [(List.mem_replicate.mp hx).2]
  omega
theorem DD_is {ls ds : List Int} (hp : ls.Perm ds) (hd : ds.Pairwise (· ≥ ·)) : DD ls = ds :=
  List.Perm.eq_of_pairwise (fun a b _ _ h1 h2 => Int.le_antisymm h2 h1) (LF_desc ls) hd ((DD_perm ls).trans hp)
theorem DD312 : DD [3, 1, 2] = [3, 2, 1] := DD_is (by decide) (by decide)
theorem DD5 : DD [5] = [5] := DD_is (by decide) (by decide)
theorem DD99 : DD (List.replicate 9 99) = List.replicate 9 99 := DD_is (List.Perm.refl _) (by decide)
theorem c27 (ns : List Int) (hns : ns.length ≤ 63) : ∃ M', runF T 0 14 27 [.scr (ns.map .int)] [] = .ok (.bl true) M' := by
  refine ⟨[], ?_⟩
  show runF T 0 (13 + 1) 27 [.scr (ns.map .int)] [] = _
  rw [run_eq (T_at 27) rfl]
  have hl : bltS [] .len [.scr (ns.map .int)] = some (.int ((ns.length : Nat) : Int)) := by
    show some (D.int ((ns.map D.int).length : Nat)) = _
    rw [List.length_map]
  obtain ⟨t3, h3⟩ : ∃ t : Int, t = if ((ns.length : Nat) : Int) < 3 then ((ns.length : Nat) : Int) else 3 := ⟨_, rfl⟩
  have hmin : bltS [] .min [.int 3, .int ((ns.length : Nat) : Int)] = some (.int t3) := by
    rw [h3]
    rfl
  obtain ⟨t, ht⟩ : ∃ t : Int, t = if t3 > 1 then t3 else 1 := ⟨_, rfl⟩
  have hmax : bltS [] .max [.int 1, .int t3] = some (.int t) := by
    rw [ht]
    rfl
  have ht3 : 0 ≤ t ∧ t ≤ 3 := by
    rw [ht, h3]
    split <;> split <;> omega
  clear ht h3
  have hr : rgOk 0 t = true := rg_ok ⟨ht3.1, by omega⟩
  have hrg := rgL_nat (many := t) (n := t.toNat) (by omega)
  obtain ⟨L', M', h, y1, y3, y4, rfl, hB⟩ := forL_all (w := ⟨rgL 0 t, none⟩) (tg := .name 1) (body := exSs (clOf T 0 13) b27_1) (L := [some (.scr (ns.map .int)), none, none, none, none]) (M := [])
    (fun i L M' => ∃ y1 y3 y4, L = [some (.scr (ns.map .int)), y1, none, y3, y4] ∧ bels 0 M' = true) ⟨none, none, none, rfl, rfl⟩ (fun _ _ _ _ => rfl) (fun i x L M' hx p => by
      obtain ⟨y1, y3, y4, rfl, hB⟩ := p
      have hx' : (rgL 0 t)[i]? = some x := hx
      rw [hrg, List.getElem?_map, Option.map_eq_some_iff] at hx'
      obtain ⟨s, _, rfl⟩ := hx'
      obtain ⟨z3, z4, M2, h, hB2⟩ := st27_1 (T := T) 6 hB ns s none y3 y4
      exact ⟨_, rfl, _, _, .inl h, some (.int (s : Int)), z3, z4, rfl, hB2⟩)
  -- the written cases
  have q1 : runF T 0 13 16 [.tup [.int 3, .int 1, .int 2], .int 2] M' = .ok (.int 7) M' := by
    have := c16 (T := T) 8 M' (ls := [3, 1, 2]) w312 (by decide) (by decide) (h := 2) (by decide) (hi := 2) rfl
    rw [DD312, show hs 2 0 [3, 2, 1] = 7 by decide +kernel] at this
    exact this
  have q2 : runF T 0 13 14 [.tup [.int 3, .int 1, .int 2], .int 2, .tup [.tup [.int 1, .int 0], .tup [.int 2]]] M' = .ok (.int 7) M' := by
    have hv : okV (rowsD [[1, 0], [2]]) := okV_tup (by decide) (by
      intro d hd
      obtain ⟨r, hr, rfl⟩ := List.mem_map.mp hd
      refine okR_oD ?_
      simp at hr
      rcases hr with rfl | rfl <;> decide)
    have := c14 (T := T) 9 M' (ls := [3, 1, 2]) w312 (by decide) (by decide) (h := 2) (by decide) (hi := 2) rfl (rs := [[1, 0], [2]]) hv (rowsOk_good rfl (by decide)) (by decide)
    rw [show costs [3, 1, 2] [[1, 0], [2]] = 7 by decide +kernel] at this
    exact this
  have q3 : runF T 0 13 16 [.tup [.int 5], .int 4] M' = .ok (.int 5) M' := by
    have := c16 (T := T) 8 M' (ls := [5]) w5 (by decide) (by decide) (h := 4) (by decide) (hi := 4) rfl
    rw [DD5, show hs 4 0 [5] = 5 by decide +kernel] at this
    exact this
  have q4 : runF T 0 13 13 [.tup [.int 3, .int 1, .int 2], .int 2, .tup [.tup [.int 1], .tup [.int 2]]] M' = .ok (.bl false) M' := by
    have hv : okV (rowsD [[1], [2]]) := okV_tup (by decide) (by
      intro d hd
      obtain ⟨r, hr, rfl⟩ := List.mem_map.mp hd
      refine okR_oD ?_
      simp at hr
      rcases hr with rfl | rfl <;> decide)
    have := c13 (T := T) 9 M' (ls := [3, 1, 2]) w312 (by decide) (by decide) (h := 2) (by decide) (hi := 2) rfl (v := rowsD [[1], [2]]) hv
    rw [show rowsOk [(3 : Int), 1, 2].length 2 (rowsD [[1], [2]]) = false by
      show (true && (true && srtIs ((3 : Nat) : Int) [1, 2])) = false
      rw [srt_len (n := 3) (ns := [1, 2]) (by decide)]
      rfl] at this
    exact this
  have q5 : runF T 0 13 16 [lsD (List.replicate 9 99), .int 4] M' = .ok (.int 1485) M' := by
    have := c16 (T := T) 8 M' (ls := List.replicate 9 99) w99 (by decide) (by decide) (h := 4) (by decide) (hi := 4) rfl
    rw [DD99, show hs 4 0 (List.replicate 9 99) = 1485 by decide +kernel] at this
    exact this
  have hmul : binS M' .mul (.tup [.int 99]) (.int 9) = some (lsD (List.replicate 9 99)) := by
    show (if Bop.mul = Bop.mul ∧ [D.int 99] ≠ [] ∧ (1 : Int) ≤ 9 ∧ (9 : Int) ≤ 1000 ∧ 1 ≤ 1000 then some (D.tup (List.replicate (9 : Int).toNat [D.int 99]).flatten) else none) = _
    rw [if_pos ⟨rfl, List.cons_ne_nil _ _, by decide, by decide, by decide⟩]
    rfl
  have z1 : ∀ d : D, ([d] : List D).length ≤ lim := fun d => by
    show 1 ≤ lim
    decide
  have z2 : ∀ d d' : D, ([d, d'] : List D).length ≤ lim := fun d d' => by
    show 2 ≤ lim
    decide
  have z3 : ∀ d d' d'' : D, ([d, d', d''] : List D).length ≤ lim := fun d d' d'' => by
    show 3 ≤ lim
    decide
  have he := told_eq M'
  have hf : cmpS M' .isx (.bl false) (.bl false) = some true := rfl
  have h1485 : cmpS M' .eq (.int 1485) (.int 1485) = some true := by
    rw [cmp_eqI]
    rfl
  have main : exSs (clOf T 0 13) b27 [some (.scr (ns.map .int)), none, none, none, none] [] = .ret (.bl true) M' := by
    unfold b27
    generalize ((ns.length : Nat) : Int) = nl at *
    generalize D.scr (ns.map .int) = sc at *
    rw [seq_next (L1 := [some sc, y1, none, y3, y4]) (M1 := M') (by
      rw [x_for, range_run (i := 0) (j := t) (M1 := []) (M2 := []) rfl (by simp only [x_nil, x_cons, x_asg, x_ex, x_ret, x_ite, x_for, x_setI, x_aug, x_raise, e_var, e_lit, e_bin, e_neg, e_cmp, e_chain, e_and, e_or, e_not, e_ite, e_tru, e_tup, e_new, e_call, e_blt, e_mth, e_idx, e_slc, e_rev, p_nil, p_cons, es_nil, es_cons, c_nil, c_cons, n_disp, n_comp, n_comp2, n_listOf, n_listRg, n_sorted, n_dict0, i_seq, i_range, i_enum, i_zip, clOf_call', cl_call, clOf_hi2, clOf_lower2, R.bind_ok, R.bind_exc, R.then_ok, R.then_exc, R.nx_ok, RS.seq_next, RS.seq_ret, RS.seq_exc, ofO_some, asg_name, asg_tup2, wipe_nil, wipe_cons, truth_bl, cont_ref, cont_tup, cont_lst, cont_scr, cont_int, cont_bl, cont_non, cont_str, cont_dct, bin_int, in_add, in_sub, cmp_lt, cmp_le, cmp_gt, cmp_ge, cmp_isnBl, cmp_eqI, cmp_neI, cmp_eqB, cmp_neB, at_0, at_1, at_2, fin_ret, fin_next, fin_keep, fin_exc, clean_int, clean_bl, clean_non, seq_tup, seq_lst, List.getElem?_cons_zero, List.getElem?_cons_succ, List.set_cons_zero, List.set_cons_succ, Option.map_some, List.map_cons, List.map_nil, if_true, if_false, Bool.false_eq_true, Bool.not_true, Bool.not_false, Bool.and_true, Bool.true_and, Bool.false_and, decide_true, decide_false, List.replicate, List.append, List.nil_append, List.cons_append, hl, hmin, hmax]) hr]
      exact h)]
    rw [seq_next (L1 := [some sc, y1, some (.lst [.int 7, .int 7, .int 5]), y3, y4]) (M1 := M') (by
      clear he q4 q5 hmul h1485 hf
      simp only [x_nil, x_cons, x_asg, x_ex, x_ret, x_ite, x_for, x_setI, x_aug, x_raise, e_var, e_lit, e_bin, e_neg, e_cmp, e_chain, e_and, e_or, e_not, e_ite, e_tru, e_tup, e_new, e_call, e_blt, e_mth, e_idx, e_slc, e_rev, p_nil, p_cons, es_nil, es_cons, c_nil, c_cons, n_disp, n_comp, n_comp2, n_listOf, n_listRg, n_sorted, n_dict0, i_seq, i_range, i_enum, i_zip, clOf_call', cl_call, clOf_hi2, clOf_lower2, R.bind_ok, R.bind_exc, R.then_ok, R.then_exc, R.nx_ok, RS.seq_next, RS.seq_ret, RS.seq_exc, ofO_some, asg_name, asg_tup2, wipe_nil, wipe_cons, truth_bl, cont_ref, cont_tup, cont_lst, cont_scr, cont_int, cont_bl, cont_non, cont_str, cont_dct, bin_int, in_add, in_sub, cmp_lt, cmp_le, cmp_gt, cmp_ge, cmp_isnBl, cmp_eqI, cmp_neI, cmp_eqB, cmp_neB, at_0, at_1, at_2, fin_ret, fin_next, fin_keep, fin_exc, clean_int, clean_bl, clean_non, seq_tup, seq_lst, List.getElem?_cons_zero, List.getElem?_cons_succ, List.set_cons_zero, List.set_cons_succ, Option.map_some, List.map_cons, List.map_nil, if_true, if_false, Bool.false_eq_true, Bool.not_true, Bool.not_false, Bool.and_true, Bool.true_and, Bool.false_and, decide_true, decide_false, List.replicate, List.append, List.nil_append, List.cons_append, z1, z2, z3, q1, q2, q3])]
    refine ret_of ?_
    generalize lsD (List.replicate 9 99) = X9 at *
    clear q1 q2 q3 h
    simp only [x_nil, x_cons, x_asg, x_ex, x_ret, x_ite, x_for, x_setI, x_aug, x_raise, e_var, e_lit, e_bin, e_neg, e_cmp, e_chain, e_and, e_or, e_not, e_ite, e_tru, e_tup, e_new, e_call, e_blt, e_mth, e_idx, e_slc, e_rev, p_nil, p_cons, es_nil, es_cons, c_nil, c_cons, n_disp, n_comp, n_comp2, n_listOf, n_listRg, n_sorted, n_dict0, i_seq, i_range, i_enum, i_zip, clOf_call', cl_call, clOf_hi2, clOf_lower2, R.bind_ok, R.bind_exc, R.then_ok, R.then_exc, R.nx_ok, RS.seq_next, RS.seq_ret, RS.seq_exc, ofO_some, asg_name, asg_tup2, wipe_nil, wipe_cons, truth_bl, cont_ref, cont_tup, cont_lst, cont_scr, cont_int, cont_bl, cont_non, cont_str, cont_dct, bin_int, in_add, in_sub, cmp_lt, cmp_le, cmp_gt, cmp_ge, cmp_isnBl, cmp_eqI, cmp_neI, cmp_eqB, cmp_neB, at_0, at_1, at_2, fin_ret, fin_next, fin_keep, fin_exc, clean_int, clean_bl, clean_non, seq_tup, seq_lst, List.getElem?_cons_zero, List.getElem?_cons_succ, List.set_cons_zero, List.set_cons_succ, Option.map_some, List.map_cons, List.map_nil, if_true, if_false, Bool.false_eq_true, Bool.not_true, Bool.not_false, Bool.and_true, Bool.true_and, Bool.false_and, decide_true, decide_false, List.replicate, List.append, List.nil_append, List.cons_append, z1, z2, z3, he, q4, hf, hmul, q5, h1485]
  show fin false [] (exSs (clOf T 0 13) b27 [some (.scr (ns.map .int)), none, none, none, none] []) = _
  rw [main, fin_ret]
  exact clean_rest (M := []) (rest := M') rfl
theorem law_ok (ns : List Int) (hns : ns.length ≤ 63) : ∃ M', runF (tabOf txt) 0 14 27 [.scr (ns.map .int)] [] = .ok (.bl true) M' := by
  haveI := tb_txt
  exact c27 ns hns
end K77
namespace K77
open PySem PySem.Spec PyProof.Rows L2 MP
theorem scs : txt.ds.all scB = true := by decide +kernel
variable [TabC]
theorem all_mk {K : PySem.W.Frag} {h : Heap} {mg : Str → Option Value} (X : K.In h) (G : h.Ns mainGlobals mg)
    {f0 f1 f2 f3 f4 f5 f6 f7 f8 f9 f10 f11 f12 f13 f14 f15 f16 f17 f18 f19 f20 f21 f22 f23 f24 f25 f26 f27 E0 E1 : Addr} {od0 an0 od1 an1 od2 an2 od3 an3 od4 an4 od5 an5 od6 an6 od7 an7 od8 an8 od9 an9 od10 an10 od11 an11 od12 an12 od13 an13 od14 an14 od15 an15 od16 an16 od17 an17 od18 an18 od19 an19 od20 an20 od21 an21 od22 an22 od23 an23 od24 an24 od25 an25 od26 an26 od27 an27 : Option Addr} {sl0 sl1 sl2 sl3 sl4 sl5 sl6 sl7 sl8 sl9 sl10 sl11 sl12 sl13 sl14 sl15 sl16 sl17 sl18 sl19 sl20 sl21 sl22 sl23 sl24 sl25 sl26 sl27 : Array (Option Value)} {oc0 kV0 dc0 pm0 cd0 ct0 oc1 kV1 dc1 pm1 cd1 ct1 oc2 kV2 dc2 pm2 cd2 ct2 oc3 kV3 dc3 pm3 cd3 ct3 oc4 kV4 dc4 pm4 cd4 ct4 oc5 kV5 dc5 pm5 cd5 ct5 oc6 kV6 dc6 pm6 cd6 ct6 oc7 kV7 dc7 pm7 cd7 ct7 oc8 kV8 dc8 pm8 cd8 ct8 oc9 kV9 dc9 pm9 cd9 ct9 oc10 kV10 dc10 pm10 cd10 ct10 oc11 kV11 dc11 pm11 cd11 ct11 oc12 kV12 dc12 pm12 cd12 ct12 oc13 kV13 dc13 pm13 cd13 ct13 oc14 kV14 dc14 pm14 cd14 ct14 oc15 kV15 dc15 pm15 cd15 ct15 oc16 kV16 dc16 pm16 cd16 ct16 oc17 kV17 dc17 pm17 cd17 ct17 oc18 kV18 dc18 pm18 cd18 ct18 oc19 kV19 dc19 pm19 cd19 ct19 oc20 kV20 dc20 pm20 cd20 ct20 oc21 kV21 dc21 pm21 cd21 ct21 oc22 kV22 dc22 pm22 cd22 ct22 oc23 kV23 dc23 pm23 cd23 ct23 oc24 kV24 dc24 pm24 cd24 ct24 oc25 kV25 dc25 pm25 cd25 ct25 oc26 kV26 dc26 pm26 cd26 ct26 oc27 kV27 dc27 pm27 cd27 ct27 : Value} {tk0 tk1 tk2 tk3 : Tok}
    (a0 : PySem.W.nsIn K mainGlobals "is_amount_within" = some (some (.ref f0))) (l0 : K.lookup f0 = some ⟨oc0, od0, .func (PySem.W.fnOf "is_amount_within" "is_amount_within" (defArgs s0) (defBody s0) (defScope s0) .none kV0 dc0 pm0 an0 cd0 ct0), sl0⟩) (c0 : PySem.W.codeIn K cd0 "is_amount_within" = true) (k0 : PySem.W.keepIn K (.ref f0) = true)
    (a1 : PySem.W.nsIn K mainGlobals "is_whole_order" = some (some (.ref f1))) (l1 : K.lookup f1 = some ⟨oc1, od1, .func (PySem.W.fnOf "is_whole_order" "is_whole_order" (defArgs s1) (defBody s1) (defScope s1) .none kV1 dc1 pm1 an1 cd1 ct1), sl1⟩) (c1 : PySem.W.codeIn K cd1 "is_whole_order" = true) (k1 : PySem.W.keepIn K (.ref f1) = true)
    (a2 : PySem.W.nsIn K mainGlobals "ends_sum" = some (some (.ref f2))) (l2 : K.lookup f2 = some ⟨oc2, od2, .func (PySem.W.fnOf "ends_sum" "ends_sum" (defArgs s2) (defBody s2) (defScope s2) .none kV2 dc2 pm2 an2 cd2 ct2), sl2⟩) (c2 : PySem.W.codeIn K cd2 "ends_sum" = true) (k2 : PySem.W.keepIn K (.ref f2) = true)
    (a3 : PySem.W.nsIn K mainGlobals "smith_sum" = some (some (.ref f3))) (l3 : K.lookup f3 = some ⟨oc3, od3, .func (PySem.W.fnOf "smith_sum" "smith_sum" (defArgs s3) (defBody s3) (defScope s3) .none kV3 dc3 pm3 an3 cd3 ct3), sl3⟩) (c3 : PySem.W.codeIn K cd3 "smith_sum" = true) (k3 : PySem.W.keepIn K (.ref f3) = true)
    (a4 : PySem.W.nsIn K mainGlobals "longest_first" = some (some (.ref f4))) (l4 : K.lookup f4 = some ⟨oc4, od4, .func (PySem.W.fnOf "longest_first" "longest_first" (defArgs s4) (defBody s4) (defScope s4) .none kV4 dc4 pm4 an4 cd4 ct4), sl4⟩) (c4 : PySem.W.codeIn K cd4 "longest_first" = true) (k4 : PySem.W.keepIn K (.ref f4) = true)
    (a5 : PySem.W.nsIn K mainGlobals "hands_sum" = some (some (.ref f5))) (l5 : K.lookup f5 = some ⟨oc5, od5, .func (PySem.W.fnOf "hands_sum" "hands_sum" (defArgs s5) (defBody s5) (defScope s5) .none kV5 dc5 pm5 an5 cd5 ct5), sl5⟩) (c5 : PySem.W.codeIn K cd5 "hands_sum" = true) (k5 : PySem.W.keepIn K (.ref f5) = true)
    (a6 : PySem.W.nsIn K mainGlobals "rows_told" = some (some (.ref f6))) (l6 : K.lookup f6 = some ⟨oc6, od6, .func (PySem.W.fnOf "rows_told" "rows_told" (defArgs s6) (defBody s6) (defScope s6) .none kV6 dc6 pm6 an6 cd6 ct6), sl6⟩) (c6 : PySem.W.codeIn K cd6 "rows_told" = true) (k6 : PySem.W.keepIn K (.ref f6) = true)
    (a7 : PySem.W.nsIn K mainGlobals "are_rows_of" = some (some (.ref f7))) (l7 : K.lookup f7 = some ⟨oc7, od7, .func (PySem.W.fnOf "are_rows_of" "are_rows_of" (defArgs s7) (defBody s7) (defScope s7) .none kV7 dc7 pm7 an7 cd7 ct7), sl7⟩) (c7 : PySem.W.codeIn K cd7 "are_rows_of" = true) (k7 : PySem.W.keepIn K (.ref f7) = true)
    (a8 : PySem.W.nsIn K mainGlobals "rows_sum" = some (some (.ref f8))) (l8 : K.lookup f8 = some ⟨oc8, od8, .func (PySem.W.fnOf "rows_sum" "rows_sum" (defArgs s8) (defBody s8) (defScope s8) .none kV8 dc8 pm8 an8 cd8 ct8), sl8⟩) (c8 : PySem.W.codeIn K cd8 "rows_sum" = true) (k8 : PySem.W.keepIn K (.ref f8) = true)
    (a9 : PySem.W.nsIn K mainGlobals "are_amount_pairs" = some (some (.ref f9))) (l9 : K.lookup f9 = some ⟨oc9, od9, .func (PySem.W.fnOf "are_amount_pairs" "are_amount_pairs" (defArgs s9) (defBody s9) (defScope s9) .none kV9 dc9 pm9 an9 cd9 ct9), sl9⟩) (c9 : PySem.W.codeIn K cd9 "are_amount_pairs" = true) (k9 : PySem.W.keepIn K (.ref f9) = true)
    (a10 : PySem.W.nsIn K mainGlobals "require_weighed" = some (some (.ref f10))) (l10 : K.lookup f10 = some ⟨oc10, od10, .func (PySem.W.fnOf "require_weighed" "require_weighed" (defArgs s10) (defBody s10) (defScope s10) .none kV10 dc10 pm10 an10 cd10 ct10), sl10⟩) (c10 : PySem.W.codeIn K cd10 "require_weighed" = true) (k10 : PySem.W.keepIn K (.ref f10) = true)
    (a11 : PySem.W.nsIn K mainGlobals "require_lengths" = some (some (.ref f11))) (l11 : K.lookup f11 = some ⟨oc11, od11, .func (PySem.W.fnOf "require_lengths" "require_lengths" (defArgs s11) (defBody s11) (defScope s11) .none kV11 dc11 pm11 an11 cd11 ct11), sl11⟩) (c11 : PySem.W.codeIn K cd11 "require_lengths" = true) (k11 : PySem.W.keepIn K (.ref f11) = true)
    (a12 : PySem.W.nsIn K mainGlobals "least_sum" = some (some (.ref f12))) (l12 : K.lookup f12 = some ⟨oc12, od12, .func (PySem.W.fnOf "least_sum" "least_sum" (defArgs s12) (defBody s12) (defScope s12) .none kV12 dc12 pm12 an12 cd12 ct12), sl12⟩) (c12 : PySem.W.codeIn K cd12 "least_sum" = true) (k12 : PySem.W.keepIn K (.ref f12) = true)
    (a13 : PySem.W.nsIn K mainGlobals "is_rows" = some (some (.ref f13))) (l13 : K.lookup f13 = some ⟨oc13, od13, .func (PySem.W.fnOf "is_rows" "is_rows" (defArgs s13) (defBody s13) (defScope s13) .none kV13 dc13 pm13 an13 cd13 ct13), sl13⟩) (c13 : PySem.W.codeIn K cd13 "is_rows" = true) (k13 : PySem.W.keepIn K (.ref f13) = true)
    (a14 : PySem.W.nsIn K mainGlobals "sum_of_rows" = some (some (.ref f14))) (l14 : K.lookup f14 = some ⟨oc14, od14, .func (PySem.W.fnOf "sum_of_rows" "sum_of_rows" (defArgs s14) (defBody s14) (defScope s14) .none kV14 dc14 pm14 an14 cd14 ct14), sl14⟩) (c14 : PySem.W.codeIn K cd14 "sum_of_rows" = true) (k14 : PySem.W.keepIn K (.ref f14) = true)
    (a15 : PySem.W.nsIn K mainGlobals "least_rows" = some (some (.ref f15))) (l15 : K.lookup f15 = some ⟨oc15, od15, .func (PySem.W.fnOf "least_rows" "least_rows" (defArgs s15) (defBody s15) (defScope s15) .none kV15 dc15 pm15 an15 cd15 ct15), sl15⟩) (c15 : PySem.W.codeIn K cd15 "least_rows" = true) (k15 : PySem.W.keepIn K (.ref f15) = true)
    (a16 : PySem.W.nsIn K mainGlobals "least_hands_sum" = some (some (.ref f16))) (l16 : K.lookup f16 = some ⟨oc16, od16, .func (PySem.W.fnOf "least_hands_sum" "least_hands_sum" (defArgs s16) (defBody s16) (defScope s16) .none kV16 dc16 pm16 an16 cd16 ct16), sl16⟩) (c16 : PySem.W.codeIn K cd16 "least_hands_sum" = true) (k16 : PySem.W.keepIn K (.ref f16) = true)
    (a17 : PySem.W.nsIn K mainGlobals "_law_ewer" = some (some (.ref f17))) (l17 : K.lookup f17 = some ⟨oc17, od17, .func (PySem.W.fnOf "_law_ewer" "_law_ewer" (defArgs s17) (defBody s17) (defScope s17) .none kV17 dc17 pm17 an17 cd17 ct17), sl17⟩) (c17 : PySem.W.codeIn K cd17 "_law_ewer" = true) (k17 : PySem.W.keepIn K (.ref f17) = true)
    (a18 : PySem.W.nsIn K mainGlobals "_law_drip" = some (some (.ref f18))) (l18 : K.lookup f18 = some ⟨oc18, od18, .func (PySem.W.fnOf "_law_drip" "_law_drip" (defArgs s18) (defBody s18) (defScope s18) .none kV18 dc18 pm18 an18 cd18 ct18), sl18⟩) (c18 : PySem.W.codeIn K cd18 "_law_drip" = true) (k18 : PySem.W.keepIn K (.ref f18) = true)
    (a19 : PySem.W.nsIn K mainGlobals "_law_sip" = some (some (.ref f19))) (l19 : K.lookup f19 = some ⟨oc19, od19, .func (PySem.W.fnOf "_law_sip" "_law_sip" (defArgs s19) (defBody s19) (defScope s19) .none kV19 dc19 pm19 an19 cd19 ct19), sl19⟩) (c19 : PySem.W.codeIn K cd19 "_law_sip" = true) (k19 : PySem.W.keepIn K (.ref f19) = true)
    (a20 : PySem.W.nsIn K mainGlobals "_law_is_integer" = some (some (.ref f20))) (l20 : K.lookup f20 = some ⟨oc20, od20, .func (PySem.W.fnOf "_law_is_integer" "_law_is_integer" (defArgs s20) (defBody s20) (defScope s20) .none kV20 dc20 pm20 an20 cd20 ct20), sl20⟩) (c20 : PySem.W.codeIn K cd20 "_law_is_integer" = true) (k20 : PySem.W.keepIn K (.ref f20) = true)
    (a21 : PySem.W.nsIn K mainGlobals "_law_met" = some (some (.ref f21))) (l21 : K.lookup f21 = some ⟨oc21, od21, .func (PySem.W.fnOf "_law_met" "_law_met" (defArgs s21) (defBody s21) (defScope s21) .none kV21 dc21 pm21 an21 cd21 ct21), sl21⟩) (c21 : PySem.W.codeIn K cd21 "_law_met" = true) (k21 : PySem.W.keepIn K (.ref f21) = true)
    (a22 : PySem.W.nsIn K mainGlobals "_law_is_order" = some (some (.ref f22))) (l22 : K.lookup f22 = some ⟨oc22, od22, .func (PySem.W.fnOf "_law_is_order" "_law_is_order" (defArgs s22) (defBody s22) (defScope s22) .none kV22 dc22 pm22 an22 cd22 ct22), sl22⟩) (c22 : PySem.W.codeIn K cd22 "_law_is_order" = true) (k22 : PySem.W.keepIn K (.ref f22) = true)
    (a23 : PySem.W.nsIn K mainGlobals "_law_is_rows" = some (some (.ref f23))) (l23 : K.lookup f23 = some ⟨oc23, od23, .func (PySem.W.fnOf "_law_is_rows" "_law_is_rows" (defArgs s23) (defBody s23) (defScope s23) .none kV23 dc23 pm23 an23 cd23 ct23), sl23⟩) (c23 : PySem.W.codeIn K cd23 "_law_is_rows" = true) (k23 : PySem.W.keepIn K (.ref f23) = true)
    (a24 : PySem.W.nsIn K mainGlobals "_law_rows_sum" = some (some (.ref f24))) (l24 : K.lookup f24 = some ⟨oc24, od24, .func (PySem.W.fnOf "_law_rows_sum" "_law_rows_sum" (defArgs s24) (defBody s24) (defScope s24) .none kV24 dc24 pm24 an24 cd24 ct24), sl24⟩) (c24 : PySem.W.codeIn K cd24 "_law_rows_sum" = true) (k24 : PySem.W.keepIn K (.ref f24) = true)
    (a25 : PySem.W.nsIn K mainGlobals "_law_least" = some (some (.ref f25))) (l25 : K.lookup f25 = some ⟨oc25, od25, .func (PySem.W.fnOf "_law_least" "_law_least" (defArgs s25) (defBody s25) (defScope s25) .none kV25 dc25 pm25 an25 cd25 ct25), sl25⟩) (c25 : PySem.W.codeIn K cd25 "_law_least" = true) (k25 : PySem.W.keepIn K (.ref f25) = true)
    (a26 : PySem.W.nsIn K mainGlobals "_law_right" = some (some (.ref f26))) (l26 : K.lookup f26 = some ⟨oc26, od26, .func (PySem.W.fnOf "_law_right" "_law_right" (defArgs s26) (defBody s26) (defScope s26) .none kV26 dc26 pm26 an26 cd26 ct26), sl26⟩) (c26 : PySem.W.codeIn K cd26 "_law_right" = true) (k26 : PySem.W.keepIn K (.ref f26) = true)
    (a27 : PySem.W.nsIn K mainGlobals "law" = some (some (.ref f27))) (l27 : K.lookup f27 = some ⟨oc27, od27, .func (PySem.W.fnOf "law" "law" (defArgs s27) (defBody s27) (defScope s27) .none kV27 dc27 pm27 an27 cd27 ct27), sl27⟩) (c27 : PySem.W.codeIn K cd27 "law" = true) (k27 : PySem.W.keepIn K (.ref f27) = true)
    (v0 : PySem.W.nsIn K mainGlobals "MOST_WEIGHED" = some (some (.int 9 tk0)))
    (v1 : PySem.W.nsIn K mainGlobals "MOST_SPAN" = some (some (.int 99 tk1)))
    (v2 : PySem.W.nsIn K mainGlobals "MOST_WEIGHT" = some (some (.int 99 tk2)))
    (v3 : PySem.W.nsIn K mainGlobals "MOST_SUM_HANDS" = some (some (.int 4 tk3)))
    (z0 : PySem.W.nsIn K mainGlobals "len" = some none)
    (z1 : PySem.W.nsIn K mainGlobals "abs" = some none)
    (z2 : PySem.W.nsIn K mainGlobals "int" = some none)
    (z3 : PySem.W.nsIn K mainGlobals "max" = some none)
    (z4 : PySem.W.nsIn K mainGlobals "min" = some none)
    (z5 : PySem.W.nsIn K mainGlobals "sum" = some none)
    (z6 : PySem.W.nsIn K mainGlobals "all" = some none)
    (z7 : PySem.W.nsIn K mainGlobals "isinstance" = some none)
    (z8 : PySem.W.nsIn K mainGlobals "repr" = some none)
    (z9 : PySem.W.nsIn K mainGlobals "tuple" = some none)
    (z10 : PySem.W.nsIn K mainGlobals "list" = some none)
    (z11 : PySem.W.nsIn K mainGlobals "sorted" = some none)
    (z12 : PySem.W.nsIn K mainGlobals "range" = some none)
    (z13 : PySem.W.nsIn K mainGlobals "enumerate" = some none)
    (z14 : PySem.W.nsIn K mainGlobals "bool" = some none)
    (en0 : PySem.W.nsIn K mainGlobals "InvalidJobs" = some (some (.ref E0)))
    (en1 : PySem.W.nsIn K mainGlobals "InvalidOperation" = some (some (.ref E1)))
    (ex0 : PySem.W.excIn K E0 [.type "ValueError", .type "Exception", .type "BaseException", .type "object"] "ValueError.__new__" = true) (ek0 : PySem.W.keepIn K (.ref E0) = true) (eb0 : PySem.W.subIn K (.ref E0) (.type "BaseException") = some true) (et0 : PySem.W.typeIn K (.ref E0) = some (.type "type"))
    (ex1 : PySem.W.excIn K E1 [.type "ValueError", .type "Exception", .type "BaseException", .type "object"] "ValueError.__new__" = true) (ek1 : PySem.W.keepIn K (.ref E1) = true) (eb1 : PySem.W.subIn K (.ref E1) (.type "BaseException") = some true) (et1 : PySem.W.typeIn K (.ref E1) = some (.type "type"))
    (em0_0 : PySem.W.exmOne K (.ref E0) (.ref E0) = some true)
    (em1_0 : PySem.W.exmOne K (.ref E1) (.ref E0) = some false)
    (em0_1 : PySem.W.exmOne K (.ref E0) (.ref E1) = some false)
    (em1_1 : PySem.W.exmOne K (.ref E1) (.ref E1) = some true)
    : TxtOk txt K mg where
  fns := DFs_of (ds := [d0, d1, d2, d3, d4, d5, d6, d7, d8, d9, d10, d11, d12, d13, d14, d15, d16, d17, d18, d19, d20, d21, d22, d23, d24, d25, d26, d27])
    (.cons
    (⟨f0, _, fun_mk (st := s0) l0 c0 k0, PySem.W.mg_of X G a0, (fun_mk (st := s0) l0 c0 k0).binds (ps := ["value", "low", "high"]) fun _ _ _ _ _ _ us hl => match us, hl with | [_, _, _], _ => rfl⟩ : DF K mg d0) (.cons
    (⟨f1, _, fun_mk (st := s1) l1 c1 k1, PySem.W.mg_of X G a1, (fun_mk (st := s1) l1 c1 k1).binds (ps := ["many", "value"]) fun _ _ _ _ _ _ us hl => match us, hl with | [_, _], _ => rfl⟩ : DF K mg d1) (.cons
    (⟨f2, _, fun_mk (st := s2) l2 c2 k2, PySem.W.mg_of X G a2, (fun_mk (st := s2) l2 c2 k2).binds (ps := ["tasks", "order"]) fun _ _ _ _ _ _ us hl => match us, hl with | [_, _], _ => rfl⟩ : DF K mg d2) (.cons
    (⟨f3, _, fun_mk (st := s3) l3 c3 k3, PySem.W.mg_of X G a3, (fun_mk (st := s3) l3 c3 k3).binds (ps := ["tasks"]) fun _ _ _ _ _ _ us hl => match us, hl with | [_], _ => rfl⟩ : DF K mg d3) (.cons
    (⟨f4, _, fun_mk (st := s4) l4 c4 k4, PySem.W.mg_of X G a4, (fun_mk (st := s4) l4 c4 k4).binds (ps := ["lengths"]) fun _ _ _ _ _ _ us hl => match us, hl with | [_], _ => rfl⟩ : DF K mg d4) (.cons
    (⟨f5, _, fun_mk (st := s5) l5 c5 k5, PySem.W.mg_of X G a5, (fun_mk (st := s5) l5 c5 k5).binds (ps := ["lengths", "hands"]) fun _ _ _ _ _ _ us hl => match us, hl with | [_, _], _ => rfl⟩ : DF K mg d5) (.cons
    (⟨f6, _, fun_mk (st := s6) l6 c6 k6, PySem.W.mg_of X G a6, (fun_mk (st := s6) l6 c6 k6).binds (ps := ["lengths", "hands"]) fun _ _ _ _ _ _ us hl => match us, hl with | [_, _], _ => rfl⟩ : DF K mg d6) (.cons
    (⟨f7, _, fun_mk (st := s7) l7 c7 k7, PySem.W.mg_of X G a7, (fun_mk (st := s7) l7 c7 k7).binds (ps := ["lengths", "hands", "value"]) fun _ _ _ _ _ _ us hl => match us, hl with | [_, _, _], _ => rfl⟩ : DF K mg d7) (.cons
    (⟨f8, _, fun_mk (st := s8) l8 c8 k8, PySem.W.mg_of X G a8, (fun_mk (st := s8) l8 c8 k8).binds (ps := ["lengths", "rows"]) fun _ _ _ _ _ _ us hl => match us, hl with | [_, _], _ => rfl⟩ : DF K mg d8) (.cons
    (⟨f9, _, fun_mk (st := s9) l9 c9 k9, PySem.W.mg_of X G a9, (fun_mk (st := s9) l9 c9 k9).binds (ps := ["value", "most", "low", "high"]) fun _ _ _ _ _ _ us hl => match us, hl with | [_, _, _, _], _ => rfl⟩ : DF K mg d9) (.cons
    (⟨f10, _, fun_mk (st := s10) l10 c10 k10, PySem.W.mg_of X G a10, (fun_mk (st := s10) l10 c10 k10).binds (ps := ["tasks"]) fun _ _ _ _ _ _ us hl => match us, hl with | [_], _ => rfl⟩ : DF K mg d10) (.cons
    (⟨f11, _, fun_mk (st := s11) l11 c11 k11, PySem.W.mg_of X G a11, (fun_mk (st := s11) l11 c11 k11).binds (ps := ["lengths", "hands"]) fun _ _ _ _ _ _ us hl => match us, hl with | [_, _], _ => rfl⟩ : DF K mg d11) (.cons
    (⟨f12, _, fun_mk (st := s12) l12 c12 k12, PySem.W.mg_of X G a12, (fun_mk (st := s12) l12 c12 k12).binds (ps := ["tasks"]) fun _ _ _ _ _ _ us hl => match us, hl with | [_], _ => rfl⟩ : DF K mg d12) (.cons
    (⟨f13, _, fun_mk (st := s13) l13 c13 k13, PySem.W.mg_of X G a13, (fun_mk (st := s13) l13 c13 k13).binds (ps := ["lengths", "hands", "value"]) fun _ _ _ _ _ _ us hl => match us, hl with | [_, _, _], _ => rfl⟩ : DF K mg d13) (.cons
    (⟨f14, _, fun_mk (st := s14) l14 c14 k14, PySem.W.mg_of X G a14, (fun_mk (st := s14) l14 c14 k14).binds (ps := ["lengths", "hands", "rows"]) fun _ _ _ _ _ _ us hl => match us, hl with | [_, _, _], _ => rfl⟩ : DF K mg d14) (.cons
    (⟨f15, _, fun_mk (st := s15) l15 c15 k15, PySem.W.mg_of X G a15, (fun_mk (st := s15) l15 c15 k15).binds (ps := ["lengths", "hands"]) fun _ _ _ _ _ _ us hl => match us, hl with | [_, _], _ => rfl⟩ : DF K mg d15) (.cons
    (⟨f16, _, fun_mk (st := s16) l16 c16 k16, PySem.W.mg_of X G a16, (fun_mk (st := s16) l16 c16 k16).binds (ps := ["lengths", "hands"]) fun _ _ _ _ _ _ us hl => match us, hl with | [_, _], _ => rfl⟩ : DF K mg d16) (.cons
    (⟨f17, _, fun_mk (st := s17) l17 c17 k17, PySem.W.mg_of X G a17, (fun_mk (st := s17) l17 c17 k17).binds (ps := ["script", "spot"]) fun _ _ _ _ _ _ us hl => match us, hl with | [_, _], _ => rfl⟩ : DF K mg d17) (.cons
    (⟨f18, _, fun_mk (st := s18) l18 c18 k18, PySem.W.mg_of X G a18, (fun_mk (st := s18) l18 c18 k18).binds (ps := ["ewer", "total"]) fun _ _ _ _ _ _ us hl => match us, hl with | [_, _], _ => rfl⟩ : DF K mg d18) (.cons
    (⟨f19, _, fun_mk (st := s19) l19 c19 k19, PySem.W.mg_of X G a19, (fun_mk (st := s19) l19 c19 k19).binds (ps := ["ewer", "items"]) fun _ _ _ _ _ _ us hl => match us, hl with | [_, _], _ => rfl⟩ : DF K mg d19) (.cons
    (⟨f20, _, fun_mk (st := s20) l20 c20 k20, PySem.W.mg_of X G a20, (fun_mk (st := s20) l20 c20 k20).binds (ps := ["value"]) fun _ _ _ _ _ _ us hl => match us, hl with | [_], _ => rfl⟩ : DF K mg d20) (.cons
    (⟨f21, _, fun_mk (st := s21) l21 c21 k21, PySem.W.mg_of X G a21, (fun_mk (st := s21) l21 c21 k21).binds (ps := ["call"]) fun _ _ _ _ _ _ us hl => match us, hl with | [_], _ => rfl⟩ : DF K mg d21) (.cons
    (⟨f22, _, fun_mk (st := s22) l22 c22 k22, PySem.W.mg_of X G a22, (fun_mk (st := s22) l22 c22 k22).binds (ps := ["many", "value"]) fun _ _ _ _ _ _ us hl => match us, hl with | [_, _], _ => rfl⟩ : DF K mg d22) (.cons
    (⟨f23, _, fun_mk (st := s23) l23 c23 k23, PySem.W.mg_of X G a23, (fun_mk (st := s23) l23 c23 k23).binds (ps := ["many", "hands", "value"]) fun _ _ _ _ _ _ us hl => match us, hl with | [_, _, _], _ => rfl⟩ : DF K mg d23) (.cons
    (⟨f24, _, fun_mk (st := s24) l24 c24 k24, PySem.W.mg_of X G a24, (fun_mk (st := s24) l24 c24 k24).binds (ps := ["lengths", "rows"]) fun _ _ _ _ _ _ us hl => match us, hl with | [_, _], _ => rfl⟩ : DF K mg d24) (.cons
    (⟨f25, _, fun_mk (st := s25) l25 c25 k25, PySem.W.mg_of X G a25, (fun_mk (st := s25) l25 c25 k25).binds (ps := ["lengths", "hands"]) fun _ _ _ _ _ _ us hl => match us, hl with | [_, _], _ => rfl⟩ : DF K mg d25) (.cons
    (⟨f26, _, fun_mk (st := s26) l26 c26 k26, PySem.W.mg_of X G a26, (fun_mk (st := s26) l26 c26 k26).binds (ps := ["ewer"]) fun _ _ _ _ _ _ us hl => match us, hl with | [_], _ => rfl⟩ : DF K mg d26) (.cons
    (⟨f27, _, fun_mk (st := s27) l27 c27 k27, PySem.W.mg_of X G a27, (fun_mk (st := s27) l27 c27 k27).binds (ps := ["script"]) fun _ _ _ _ _ _ us hl => match us, hl with | [_], _ => rfl⟩ : DF K mg d27) (.nil)))))))))))))))))))))))))))))
  sc := scs_ok scs
  blt := fun x hx => by
    simp only [txt, List.mem_cons, List.not_mem_nil, or_false] at hx
    rcases hx with rfl | rfl | rfl | rfl | rfl | rfl | rfl | rfl | rfl | rfl | rfl | rfl | rfl | rfl | rfl
    · exact PySem.W.mg_none_of X G z0
    · exact PySem.W.mg_none_of X G z1
    · exact PySem.W.mg_none_of X G z2
    · exact PySem.W.mg_none_of X G z3
    · exact PySem.W.mg_none_of X G z4
    · exact PySem.W.mg_none_of X G z5
    · exact PySem.W.mg_none_of X G z6
    · exact PySem.W.mg_none_of X G z7
    · exact PySem.W.mg_none_of X G z8
    · exact PySem.W.mg_none_of X G z9
    · exact PySem.W.mg_none_of X G z10
    · exact PySem.W.mg_none_of X G z11
    · exact PySem.W.mg_none_of X G z12
    · exact PySem.W.mg_none_of X G z13
    · exact PySem.W.mg_none_of X G z14
  con := fun x d hx => by
    refine cons_ok (l := txt.cons) (mg := mg) (K := K) ?_ x d hx
    simp only [txt, List.forall_mem_cons]
    exact ⟨⟨_, tk0, rfl, PySem.W.mg_of X G v0⟩, ⟨_, tk1, rfl, PySem.W.mg_of X G v1⟩, ⟨_, tk2, rfl, PySem.W.mg_of X G v2⟩, ⟨_, tk3, rfl, PySem.W.mg_of X G v3⟩, fun _ hx => nomatch hx⟩
  exs := fun x hx => by
    simp only [txt, List.mem_cons, List.not_mem_nil, or_false] at hx
    rcases hx with rfl | rfl
    · exact ⟨E0, ⟨en0, ⟨_, _, _, _, PySem.F.excBase_ValueError, ex0⟩, ek0, eb0, et0⟩, PySem.W.mg_of X G en0⟩
    · exact ⟨E1, ⟨en1, ⟨_, _, _, _, PySem.F.excBase_ValueError, ex1⟩, ek1, eb1, et1⟩, PySem.W.mg_of X G en1⟩
  mets := fun x mi hx => by
    have e := PySem.mem_of_lookup hx
    simp only [txt, List.mem_cons, List.not_mem_nil, or_false, Prod.mk.injEq] at e
    obtain ⟨rfl, rfl⟩ := e
    · exact ⟨f21, s21, oc21, .none, kV21, dc21, pm21, cd21, ct21, an21, od21, sl21, ["call", "error"], _, _, _, _, _, _, _, _, _, _, _, PySem.W.mg_of X G a21, k21, l21, c21, (fun_mk (st := s21) l21 c21 k21).binds (ps := ["call"]) fun _ _ _ _ _ _ us hl => match us, hl with | [_], _ => rfl, scB_ok (d := d21) (by decide +kernel), rfl, .inl rfl, rfl,
      (.cons (by rfl) (PySem.W.mg_of X G en0) (by decide) (by exact ⟨rfl, rfl, trivial⟩) (by decide) (.cons (by rfl) (PySem.W.mg_of X G en1) (by decide) (by exact ⟨rfl, rfl, trivial⟩) (by decide) .rest)),
      (.cons (fun c b C hb hn => by
        have e := PySem.mem_of_lookup hb
        simp only [List.mem_cons, List.not_mem_nil, or_false, Prod.mk.injEq] at e
        rcases e with ⟨rfl, rfl⟩ | ⟨rfl, rfl⟩
        · rw [en0] at hn; cases hn; exact em0_0
        · rw [en1] at hn; cases hn; exact em1_0) (.cons (fun c b C hb hn => by
        have e := PySem.mem_of_lookup hb
        simp only [List.mem_cons, List.not_mem_nil, or_false, Prod.mk.injEq] at e
        rcases e with ⟨rfl, rfl⟩ | ⟨rfl, rfl⟩
        · rw [en0] at hn; cases hn; exact em0_1
        · rw [en1] at hn; cases hn; exact em1_1) .nil)), by decide, by decide⟩
end K77
open PySem PySem.W PyProof.Rows
set_option maxHeartbeats 0 in
theorem PySem.Challenge.cw_loadwide_k77_whole_sums_on_hands_holds : PySem.Challenge.rw_loadwide_k77_whole_sums_on_hands.Holds := by
  w_on; o_law; k_head; (case hw => w_witness2)
  k_fill
  refine MP.law_headL (l := PySem.Challenge.rw_loadwide_k77_whole_sums_on_hands) (k := 14) (i := 27) (t := K77.txt) (d := K77.d27) (fuel := 0) (x := "script") [("longest_first", 121, 117), ("_law_least", 252, 250), ("_law_right", 257, 255)] rfl rfl rfl rfl rfl (fun w h Y => PySem.W.km_in_of Y) ?cF ?cP ?cN ?cC (by decide +kernel) ?cL K77.law_ok (fun _ _ _ _ _ _ _ _ => .of_eq rfl) ⟨rfl, by decide, by decide⟩
  case cP =>
    intro w h Y q hq
    have hT := PySem.W.km_tabs_of Y
    simp only [List.mem_cons, List.not_mem_nil, or_false] at hq
    rcases hq with rfl | rfl | rfl <;> exact hT _ (by k_mem)
  case cN =>
    intro w q hq
    simp only [List.mem_cons, List.not_mem_nil, or_false] at hq
    rcases hq with rfl | rfl | rfl <;> kernel_rfl
  case cC =>
    intro w q hq
    simp only [List.mem_cons, List.not_mem_nil, or_false] at hq
    rcases hq with rfl | rfl | rfl <;> kernel_rfl
  case cL => intro w; kernel_rfl
  case cF =>
    intro w mg h KX G
    letI : MP.TabC := ⟨MP.tabT [("longest_first", 121, 117), ("_law_least", 252, 250), ("_law_right", 257, 255)]⟩
    refine' K77.all_mk KX G ?a0 ?l0 ?c0 ?k0 ?a1 ?l1 ?c1 ?k1 ?a2 ?l2 ?c2 ?k2 ?a3 ?l3 ?c3 ?k3 ?a4 ?l4 ?c4 ?k4 ?a5 ?l5 ?c5 ?k5 ?a6 ?l6 ?c6 ?k6 ?a7 ?l7 ?c7 ?k7 ?a8 ?l8 ?c8 ?k8 ?a9 ?l9 ?c9 ?k9 ?a10 ?l10 ?c10 ?k10 ?a11 ?l11 ?c11 ?k11 ?a12 ?l12 ?c12 ?k12 ?a13 ?l13 ?c13 ?k13 ?a14 ?l14 ?c14 ?k14 ?a15 ?l15 ?c15 ?k15 ?a16 ?l16 ?c16 ?k16 ?a17 ?l17 ?c17 ?k17 ?a18 ?l18 ?c18 ?k18 ?a19 ?l19 ?c19 ?k19 ?a20 ?l20 ?c20 ?k20 ?a21 ?l21 ?c21 ?k21 ?a22 ?l22 ?c22 ?k22 ?a23 ?l23 ?c23 ?k23 ?a24 ?l24 ?c24 ?k24 ?a25 ?l25 ?c25 ?k25 ?a26 ?l26 ?c26 ?k26 ?a27 ?l27 ?c27 ?k27 ?v0 ?v1 ?v2 ?v3 ?z0 ?z1 ?z2 ?z3 ?z4 ?z5 ?z6 ?z7 ?z8 ?z9 ?z10 ?z11 ?z12 ?z13 ?z14 ?en0 ?en1 ?ex0 ?ek0 ?eb0 ?et0 ?ex1 ?ek1 ?eb1 ?et1 ?em0_0 ?em1_0 ?em0_1 ?em1_1
    (case a0 => k_is); (case l0 => k_is); (case c0 => k_is); (case k0 => k_is); (case a1 => k_is); (case l1 => k_is); (case c1 => k_is); (case k1 => k_is); (case a2 => k_is); (case l2 => k_is); (case c2 => k_is); (case k2 => k_is); (case a3 => k_is); (case l3 => k_is); (case c3 => k_is); (case k3 => k_is); (case a4 => k_is); (case l4 => k_is); (case c4 => k_is); (case k4 => k_is); (case a5 => k_is); (case l5 => k_is); (case c5 => k_is); (case k5 => k_is); (case a6 => k_is); (case l6 => k_is); (case c6 => k_is); (case k6 => k_is); (case a7 => k_is); (case l7 => k_is); (case c7 => k_is); (case k7 => k_is); (case a8 => k_is); (case l8 => k_is); (case c8 => k_is); (case k8 => k_is); (case a9 => k_is); (case l9 => k_is); (case c9 => k_is); (case k9 => k_is); (case a10 => k_is); (case l10 => k_is); (case c10 => k_is); (case k10 => k_is); (case a11 => k_is); (case l11 => k_is); (case c11 => k_is); (case k11 => k_is); (case a12 => k_is); (case l12 => k_is); (case c12 => k_is); (case k12 => k_is); (case a13 => k_is); (case l13 => k_is); (case c13 => k_is); (case k13 => k_is); (case a14 => k_is); (case l14 => k_is); (case c14 => k_is); (case k14 => k_is); (case a15 => k_is); (case l15 => k_is); (case c15 => k_is); (case k15 => k_is); (case a16 => k_is); (case l16 => k_is); (case c16 => k_is); (case k16 => k_is); (case a17 => k_is); (case l17 => k_is); (case c17 => k_is); (case k17 => k_is); (case a18 => k_is); (case l18 => k_is); (case c18 => k_is); (case k18 => k_is); (case a19 => k_is); (case l19 => k_is); (case c19 => k_is); (case k19 => k_is); (case a20 => k_is); (case l20 => k_is); (case c20 => k_is); (case k20 => k_is); (case a21 => k_is); (case l21 => k_is); (case c21 => k_is); (case k21 => k_is); (case a22 => k_is); (case l22 => k_is); (case c22 => k_is); (case k22 => k_is); (case a23 => k_is); (case l23 => k_is); (case c23 => k_is); (case k23 => k_is); (case a24 => k_is); (case l24 => k_is); (case c24 => k_is); (case k24 => k_is); (case a25 => k_is); (case l25 => k_is); (case c25 => k_is); (case k25 => k_is); (case a26 => k_is); (case l26 => k_is); (case c26 => k_is); (case k26 => k_is); (case a27 => k_is); (case l27 => k_is); (case c27 => k_is); (case k27 => k_is); (case v0 => k_is); (case v1 => k_is); (case v2 => k_is); (case v3 => k_is); (case z0 => k_is); (case z1 => k_is); (case z2 => k_is); (case z3 => k_is); (case z4 => k_is); (case z5 => k_is); (case z6 => k_is); (case z7 => k_is); (case z8 => k_is); (case z9 => k_is); (case z10 => k_is); (case z11 => k_is); (case z12 => k_is); (case z13 => k_is); (case z14 => k_is); (case en0 => k_is); (case en1 => k_is); (case ex0 => k_exc); (case ek0 => k_is); (case eb0 => k_is); (case et0 => k_is); (case ex1 => k_exc); (case ek1 => k_is); (case eb1 => k_is); (case et1 => k_is); (case em0_0 => kernel_rfl); (case em1_0 => kernel_rfl); (case em0_1 => kernel_rfl); (case em1_1 => kernel_rfl)
