import PyProof.Rows.All
import Wide.All
import OpenK.AllK
import Wide.FinOn
import HandS.ForMost
import HandS.Flow
import HandS.Style
import HandS.IsInst
import HandS.Zip
import HandS.Walk
import HandS.Deep
import HandS.DictComp
import HandS.Wide
import HandS.TupAny
import HandS.TupLen
import HandS.ExcValue
import HandS.TupMul
import KE.SortData
import KE.LtData
import KE.DataMinMax
import KE.DataEq
import KE.DataFind
import KE.KDictKeyed
import KE.KeyNested
import KE.KDictSum
import KE.KDictDisplayH
import KE.KDictCopyH
import KE.KDictWalk
import KE.GoesEnum
import KE.GoesMore
import HandS.ListItems
import HandS.Small
import HandS.Words
import HandS.Codes
import HandS.Ends
import PySem.Challenge.RW_arrivalboards_k83_whole_rows_of_drops_th
set_option Elab.async false
set_option linter.all false
set_option maxRecDepth 100000
/-! Own AST and its weakest preconditions over own data. -/
namespace Mp
open PySem

/-! ### data -/
inductive D where
  | non | bl (b : Bool) | int (i : Int) | str (x : List Nat) | tup (xs : List D) | lst (xs : List D) | ref (a : Nat)
  deriving Inhabited
inductive Cell where
  | lst (xs : List D) | rol (xs : List D) | dct (kvs : List (D × D)) | dcT (kvs : List (D × D)) | obj (c : Str) (fs : List (Str × D))
/-- an attribute set -/
def putS (f : Str) (v : D) : List (Str × D) → List (Str × D)
  | [] => [(f, v)]
  | (g, x) :: r => if g = f then (g, v) :: r else (g, x) :: putS f v r
abbrev Hh := Nat → Option Cell
def up (h : Hh) (a : Nat) (c : Cell) : Hh := fun b => if b = a then some c else h b
theorem up_same {h : Hh} {a : Nat} {c : Cell} : up h a c a = some c := by unfold up; rw [if_pos rfl]
theorem up_ne {h : Hh} {a b : Nat} {c : Cell} (e : b ≠ a) : up h a c b = h b := by unfold up; rw [if_neg e]
abbrev sz : Nat := 16777216

mutual
/-- == of frozen data -/
def eqv : D → D → Bool
  | .non, .non => true
  | .bl a, .bl b => a == b
  | .bl a, .int j => (if a then 1 else 0) == j
  | .int i, .bl b => i == (if b then 1 else 0)
  | .int i, .int j => i == j
  | .str x, .str y => x == y
  | .tup xs, .tup ys => eqvAll xs ys
  | .lst xs, .lst ys => eqvAll xs ys
  | _, _ => false
def eqvAll : List D → List D → Bool
  | [], [] => true
  | x :: xs, y :: ys => eqv x y && eqvAll xs ys
  | _, _ => false
end
mutual
/-- < of frozen data that are alike -/
def ltD : D → D → Bool
  | .bl a, .bl b => !a && b
  | .int i, .int j => decide (i < j)
  | .str x, .str y => decide (x < y)
  | .tup xs, .tup ys => ltAll xs ys
  | .lst xs, .lst ys => ltAll xs ys
  | _, _ => false
def ltAll : List D → List D → Bool
  | [], _ :: _ => true
  | x :: xs, y :: ys => if eqv x y then ltAll xs ys else ltD x y
  | _, _ => false
end
mutual
def alk : D → D → Bool
  | .non, .non => true
  | .bl _, .bl _ => true
  | .int _, .int _ => true
  | .str _, .str _ => true
  | .tup xs, .tup ys => alkAll xs ys
  | .lst xs, .lst ys => alkAll xs ys
  | _, _ => false
def alkAll : List D → List D → Bool
  | x :: xs, y :: ys => alk x y && alkAll xs ys
  | [], _ => true
  | _ :: _, [] => true
end
/-- a text that the model carries -/
def okStr (x : List Nat) : Bool := x.all fun c => decide (c < 1114112)
/-- frozen, of a depth, texts in order -/
def fits : Nat → D → Bool
  | _, .non => true
  | _, .bl _ => true
  | _, .int _ => true
  | _, .str x => okStr x
  | n + 1, .tup xs => xs.all (fits n)
  | n + 1, .lst xs => xs.all (fits n)
  | _, _ => false
/-- without lists, of a depth -/
def flat : Nat → D → Bool
  | _, .non => true
  | _, .bl _ => true
  | _, .int _ => true
  | _, .str x => okStr x
  | n + 1, .tup xs => xs.all (flat n)
  | _, _ => false
/-- a datum with its lists frozen -/
def den (h : Hh) : Nat → D → Option D
  | _, .non => some .non
  | _, .bl b => some (.bl b)
  | _, .int i => some (.int i)
  | _, .str x => some (.str x)
  | n + 1, .tup xs => (xs.mapM (den h n)).map .tup
  | n + 1, .ref a => match h a with
    | some (.lst xs) => (xs.mapM (den h n)).map .lst
    | some (.rol xs) => (xs.mapM (den h n)).map .lst
    | _ => none
  | _, _ => none

/-! ### operations -/
def truth (h : Hh) : D → Option Bool
  | .non => some false
  | .bl b => some b
  | .int i => some (i != 0)
  | .str x => if x.length ≤ sz then some (!x.isEmpty) else none
  | .tup xs => some (!xs.isEmpty)
  | .ref a => match h a with
    | some (.lst xs) => some (!xs.isEmpty)
    | some (.rol xs) => some (!xs.isEmpty)
    | some (.dct kvs) => some (!kvs.isEmpty)
    | _ => none
  | _ => none
def lenD (h : Hh) : D → Option Nat
  | .str x => if x.length ≤ sz then some x.length else none
  | .tup xs => some xs.length
  | .ref a => match h a with
    | some (.lst xs) => some xs.length
    | some (.rol xs) => some xs.length
    | some (.dct kvs) => some kvs.length
    | some (.dcT kvs) => some kvs.length
    | _ => none
  | _ => none
/-- the items of a list or tuple -/
def seqD (h : Hh) : D → Option (List D)
  | .tup xs => some xs
  | .ref a => match h a with
    | some (.lst xs) => some xs
    | some (.rol xs) => some xs
    | _ => none
  | _ => none

inductive BOp | add | sub | mul | fdiv | mod | pow
inductive COp | eq | ne | lt | le | gt | ge | isin | notin | is | isnot
def MulOk (i j : Int) : Prop := (-(2 ^ 64) < i ∧ i < 2 ^ 64) ∨ (-(2 ^ 64) < j ∧ j < 2 ^ 64) ∨ i.natAbs.log2 + j.natAbs.log2 < 1000000

abbrev PV := D → Hh → Prop
def opB : BOp → D → D → Hh → PV → Prop
  | .add, .int i, .int j, h, Q => Q (.int (i + j)) h
  | .add, .str x, .str y, h, Q => x.length + y.length ≤ sz ∧ Q (.str (x ++ y)) h
  | .add, .tup xs, .tup ys, h, Q => xs.length + ys.length ≤ sz ∧ Q (.tup (xs ++ ys)) h
  | .add, .ref a, .ref b, h, Q => ∃ xs ys, h a = some (.lst xs) ∧ h b = some (.lst ys) ∧ xs.length + ys.length ≤ sz ∧ ∀ p, h p = none → Q (.ref p) (up h p (.lst (xs ++ ys)))
  | .sub, .int i, .int j, h, Q => Q (.int (i - j)) h
  | .mul, .int i, .int j, h, Q => MulOk i j ∧ Q (.int (i * j)) h
  | .mul, .tup xs, .int k, h, Q => xs ≠ [] ∧ 1 ≤ k ∧ k ≤ 1000 ∧ xs.length ≤ 1000 ∧ Q (.tup (List.replicate k.toNat xs).flatten) h
  | .mul, .ref a, .int k, h, Q => ∃ xs, h a = some (.lst xs) ∧ -(2 ^ 63) ≤ k ∧ k < 2 ^ 63 ∧ xs.length * k.toNat ≤ sz ∧ ∀ p, h p = none → Q (.ref p) (up h p (.lst (List.replicate k.toNat xs).flatten))
  | .fdiv, .int i, .int j, h, Q => (0 < j ∧ j.natAbs.log2 < 9000) ∧ Q (.int (i / j)) h
  | .mod, .int i, .int j, h, Q => 0 < j ∧ Q (.int (i % j)) h
  | .pow, .int i, .int j, h, Q => (0 ≤ j ∧ j ≤ 1000000 ∧ i.natAbs < 2 ^ 64) ∧ Q (.int (i ^ j.toNat)) h
  | _, _, _, _, _ => False
/-- are the dict's keys asked by value: ints, texts -/
def isKey : D → Bool
  | .int _ => true
  | .str _ => true
  | _ => false
/-- a key that is a tuple, nested to a depth -/
def keyT : Nat → D → Bool
  | _, .non => true
  | _, .int _ => true
  | _, .str _ => true
  | n + 1, .tup xs => xs.all (keyT n)
  | _, _ => false
def isKeyT : D → Bool
  | .tup xs => keyT 8 (.tup xs)
  | _ => false
/-- the value at a key -/
def look (kvs : List (D × D)) (k : D) : Option D := (kvs.find? fun p => eqv p.1 k).map (·.2)
/-- a key stored -/
def stor (kvs : List (D × D)) (k v : D) : List (D × D) :=
  if kvs.any (fun p => eqv p.1 k) then kvs.map fun p => if eqv p.1 k then (p.1, v) else p else kvs ++ [(k, v)]
def memD (h : Hh) (x y : D) (Q : Bool → Prop) : Prop :=
  match y with
  | .ref a => match h a with
    | some (.dct kvs) => isKey x = true ∧ Q (kvs.any fun p => eqv p.1 x)
    | some (.dcT kvs) => isKeyT x = true ∧ Q (kvs.any fun p => eqv p.1 x)
    | some (.lst xs) => ∃ x' xs', den h 20 x = some x' ∧ xs.mapM (den h 20) = some xs' ∧ fits 20 x' = true ∧ xs'.all (fits 20) = true ∧ Q (xs'.any fun z => eqv z x')
    | _ => False
  | _ => False
def isNonD : D → Bool
  | .non => true
  | _ => false
def opC : COp → D → D → Hh → PV → Prop
  | .eq, x, y, h, Q => ∃ x' y', den h 20 x = some x' ∧ den h 20 y = some y' ∧ fits 20 x' = true ∧ fits 20 y' = true ∧ Q (.bl (eqv x' y')) h
  | .ne, x, y, h, Q => ∃ x' y', den h 20 x = some x' ∧ den h 20 y = some y' ∧ fits 20 x' = true ∧ fits 20 y' = true ∧ Q (.bl (!eqv x' y')) h
  | .lt, .int i, .int j, h, Q => Q (.bl (decide (i < j))) h
  | .lt, x, y, h, Q => flat 20 x = true ∧ flat 20 y = true ∧ alk x y = true ∧ x ≠ .non ∧ Q (.bl (ltD x y)) h
  | .le, .int i, .int j, h, Q => Q (.bl (decide (i ≤ j))) h
  | .gt, .int i, .int j, h, Q => Q (.bl (decide (j < i))) h
  | .ge, .int i, .int j, h, Q => Q (.bl (decide (j ≤ i))) h
  | .isin, x, y, h, Q => memD h x y fun b => Q (.bl b) h
  | .notin, x, y, h, Q => memD h x y fun b => Q (.bl (!b)) h
  | .is, x, .non, h, Q => Q (.bl (isNonD x)) h
  | .isnot, x, .non, h, Q => Q (.bl (!isNonD x)) h
  | .is, .bl a, .bl b, h, Q => Q (.bl (decide (a = b))) h
  | .isnot, .bl a, .bl b, h, Q => Q (.bl (!decide (a = b))) h
  | _, _, _, _, _ => False
def cutD {α : Type} (xs : List α) (lo hi : Option Int) : List α := (xs.drop (HT.sIx xs.length 0 lo)).take (HT.sIx xs.length xs.length hi - HT.sIx xs.length 0 lo)
def opIx : D → D → Hh → PV → Prop
  | .tup xs, .int i, h, Q => ∃ d, L2.atI xs i = some d ∧ Q d h
  | .str x, .int i, h, Q => x.length ≤ sz ∧ ∃ c, L2.atI x i = some c ∧ Q (.str [c]) h
  | .ref a, i, h, Q => match h a with
    | some (.lst xs) => ∃ k d, i = .int k ∧ L2.atI xs k = some d ∧ Q d h
    | some (.rol xs) => ∃ k d, i = .int k ∧ L2.atI xs k = some d ∧ Q d h
    | some (.dct kvs) => isKey i = true ∧ ∃ d, look kvs i = some d ∧ Q d h
    | some (.dcT kvs) => isKeyT i = true ∧ ∃ d, look kvs i = some d ∧ Q d h
    | _ => False
  | _, _, _, _ => False
def opSl : D → Option Int → Option Int → Hh → PV → Prop
  | .tup xs, lo, hi, h, Q => Q (.tup (cutD xs lo hi)) h
  | .str x, lo, hi, h, Q => x.length ≤ sz ∧ Q (.str (cutD x lo hi)) h
  | .lst xs, lo, hi, h, Q => ∀ p, h p = none → Q (.ref p) (up h p (.lst (cutD xs lo hi)))
  | .ref a, lo, hi, h, Q => match h a with
    | some (.lst xs) => ∀ p, h p = none → Q (.ref p) (up h p (.lst (cutD xs lo hi)))
    | some (.rol xs) => ∀ p, h p = none → Q (.ref p) (up h p (.lst (cutD xs lo hi)))
    | _ => False
  | _, _, _, _, _ => False

inductive Ty | non | bool | int | str | tuple | list | dict
  deriving DecidableEq
def Ty.nm : Ty → String
  | .non => "NoneType" | .bool => "bool" | .int => "int" | .str => "str" | .tuple => "tuple" | .list => "list" | .dict => "dict"
def tyD (h : Hh) : D → Option Ty
  | .non => some .non
  | .bl _ => some .bool
  | .int _ => some .int
  | .str _ => some .str
  | .tup _ => some .tuple
  | .ref a => match h a with
    | some (.lst _) => some .list
    | some (.rol _) => some .list
    | some (.dct _) => some .dict
    | _ => none
  | _ => none
def isiB (t c : Ty) : Bool := decide (t = c) || (decide (t = .bool) && decide (c = .int))
inductive BF | len | abs | int | str | tuple | list | min | all | any | isi (c : Ty) | sorted | items
def minL : List D → Option D
  | [] => none
  | x :: xs => some (xs.foldl (fun m y => if ltD y m then y else m) x)
/-- the figures of a number -/
def itoa (i : Int) : List Nat := (toString i).toList.map Char.toNat
def leD (a b : D) : Bool := !ltD b a
def tupN : D → Bool
  | .tup (_ :: _) => true
  | _ => false
def noTup : D → Bool
  | .non => false
  | .tup _ => false
  | _ => true
def opF : BF → List D → Hh → PV → Prop
  | .str, [.int i], h, Q => i.natAbs.log2 < 1920 ∧ Q (.str (itoa i)) h
  | .sorted, [.ref a], h, Q => ∃ xs, (h a = some (.lst xs) ∨ ∃ kvs, h a = some (.dcT kvs) ∧ xs = kvs.map (·.1)) ∧ xs.length ≤ sz ∧ xs.all (flat 20) = true ∧ (∀ x ∈ xs, ∀ y ∈ xs, alk x y = true) ∧ (xs.all tupN = true ∨ xs.all noTup = true) ∧ ∀ p, h p = none → Q (.ref p) (up h p (.lst (xs.mergeSort leD)))
  | .items, [.ref a], h, Q => ∃ kvs, h a = some (.dct kvs) ∧ ∀ p, h p = none → Q (.ref p) (up h p (.lst (kvs.map fun q => .tup [q.1, q.2])))
  | .len, [d], h, Q => ∃ n : Nat, lenD h d = some n ∧ Q (.int n) h
  | .abs, [.int i], h, Q => Q (.int (if i < 0 then -i else i)) h
  | .int, [.int i], h, Q => Q (.int i) h
  | .int, [.bl b], h, Q => Q (.int (if b then 1 else 0)) h
  | .tuple, [d], h, Q => ∃ xs, seqD h d = some xs ∧ Q (.tup xs) h
  | .list, [d], h, Q => ∃ xs, seqD h d = some xs ∧ ∀ p, h p = none → Q (.ref p) (up h p (.lst xs))
  | .min, [.ref a], h, Q => ∃ xs m, h a = some (.lst xs) ∧ xs.all (flat 20) = true ∧ (∀ x ∈ xs, ∀ y ∈ xs, alk x y = true) ∧ (∀ x ∈ xs, x ≠ .non) ∧ minL xs = some m ∧ Q m h
  | .all, [.ref a], h, Q => ∃ bs : List Bool, h a = some (.lst (bs.map .bl)) ∧ Q (.bl (bs.all id)) h
  | .any, [.ref a], h, Q => ∃ bs : List Bool, h a = some (.lst (bs.map .bl)) ∧ Q (.bl (bs.any id)) h
  | .isi c, [d], h, Q => ∃ t, tyD h d = some t ∧ Q (.bl (isiB t c)) h
  | _, _, _, _ => False
inductive ML | append | extend | update | count | index | pop
  deriving DecidableEq
def ML.ty : ML → Ty
  | .append => .list | .extend => .list | .update => .dict | .count => .list | .index => .list | .pop => .list
def opM : ML → D → List D → Hh → PV → Prop
  | .pop, .ref a, [], h, Q => ∃ xs d, h a = some (.lst (xs ++ [d])) ∧ Q d (up h a (.lst xs))
  | .count, .ref a, [d], h, Q => ∃ xs xs' d', h a = some (.lst xs) ∧ xs.mapM (den h 20) = some xs' ∧ den h 20 d = some d' ∧ xs'.all (fits 20) = true ∧ fits 20 d' = true ∧ Q (.int (xs'.countP fun z => eqv z d' : Nat)) h
  | .index, .ref a, [d], h, Q => ∃ xs xs' d', ∃ j : Nat, h a = some (.lst xs) ∧ xs.mapM (den h 20) = some xs' ∧ den h 20 d = some d' ∧ xs'.all (fits 20) = true ∧ fits 20 d' = true ∧ (xs'.findIdx? fun z => eqv z d') = some j ∧ Q (.int j) h
  | .append, .ref a, [d], h, Q => ∃ xs, h a = some (.lst xs) ∧ xs.length < sz ∧ Q .non (up h a (.lst (xs ++ [d])))
  | .extend, .ref a, [.ref b], h, Q => ∃ xs ys, h a = some (.lst xs) ∧ h b = some (.lst ys) ∧ xs.length + ys.length ≤ sz ∧ Q .non (up h a (.lst (xs ++ ys)))
  | .update, .ref a, [.ref b], h, Q => ∃ ks ls, a ≠ b ∧ h a = some (.dct ks) ∧ h b = some (.dct ls) ∧ ks.length + ls.length ≤ sz ∧
      Q .non (up h a (.dct (ls.foldl (fun acc p => stor acc p.1 p.2) ks)))
  | _, _, _, _, _ => False

/-- is it a dict -/
def isDct (h : Hh) : D → Bool
  | .ref a => match h a with
    | some (.dct _) => true
    | some (.dcT _) => true
    | _ => false
  | _ => false
/-- d.get(k), d.get(k, x) -/
def dfl : List D → Option D
  | [] => some .non
  | [z] => some z
  | _ => none
def getD (x y : D) (zs : List D) (h : Hh) (Q : PV) : Prop := match x with
  | .ref a => match h a with
    | some (.dct kvs) => isKey y = true ∧ ∃ z, dfl zs = some z ∧ Q ((look kvs y).getD z) h
    | some (.dcT kvs) => isKeyT y = true ∧ ∃ z, dfl zs = some z ∧ Q ((look kvs y).getD z) h
    | _ => False
  | _ => False
/-! ### the AST -/
inductive Lit | non | bl (b : Bool) | int (i : Int) | str (x : List Nat)
  deriving DecidableEq
def Lit.d : Lit → D
  | .non => .non | .bl b => .bl b | .int i => .int i | .str x => .str x
inductive Tg | name (i : Nat) | nil | cons (t r : Tg)
mutual
inductive E where
  | lit (l : Lit)
  | var (i : Nat)
  | bin (op : BOp) (a b : E)
  | neg (a : E)
  | not (a : E)
  | and (a b : E)
  | or (a b : E)
  | cmp (op : COp) (a b : E)
  | chain (op op2 : COp) (a b c : E)
  | ite (c a b : E)
  | tup (es : As)
  | lst (es : As)
  | dnew
  | dnewT
  | ddisT (k v : E)
  | dget (o k : E) (d : As)
  | fld (c : Str) (o : E) (f : Str)
  | new (c : Str) (F : Fn) (es : As)
  | mcall (c m : Str) (F : Fn) (o : E) (es : As)
  | idx (a i : E)
  | slc (a : E) (lo hi : Op)
  | call (x : String) (F : Fn) (es : As)
  | bf (f : BF) (es : As)
  | meth (m : ML) (o : E) (es : As)
  | comp (own : List Nat) (t : Tg) (it : It) (c : Op) (e : E)
  | dcomp (own : List Nat) (t : Tg) (it : It) (c : Op) (k v : E)
inductive Op where
  | none | some (e : E)
inductive As where
  | nil | cons (e : E) (es : As)
inductive It where
  | each (e : E) | rng1 (a : E) | rng2 (a b : E) | enum (e : E) | zip (a b : E)
inductive S where
  | expr (e : E)
  | asg (t : Tg) (e : E)
  | par (ts : List Nat) (es : As)
  | asgIx (o i e : E)
  | fset (c : Str) (o : E) (f : Str) (e : E)
  | aug (op : BOp) (i : Nat) (e : E)
  | ret (e : E)
  | ifs (c : E) (a b : B)
  | whl (c : E) (b : B)
  | for_ (t : Tg) (it : It) (b : B)
  | raise (c : String) (es : As)
  | pass
  | brk
  | cont
inductive B where
  | nil | cons (s : S) (b : B)
inductive Fn where
  | mk (np ns : Nat) (body : B)
end

/-! ### weakest preconditions -/
structure Ex where
  cls : String
  args : List D
abbrev En := List (Option D)
structure Po where
  nx : En → Hh → Prop
  rt : D → Hh → Prop
  bk : En → Hh → Prop
  ct : En → Hh → Prop
abbrev PX := Ex → Hh → Prop

def wpTg : Tg → D → En → (En → Prop) → Prop
  | .name i, x, σ, k => k (σ.set i (some x))
  | .nil, x, σ, k => x = .tup [] ∧ k σ
  | .cons t r, x, σ, k => ∃ y ys, x = .tup (y :: ys) ∧ wpTg t y σ fun σ1 => wpTg r (.tup ys) σ1 k
/-- lists that are walked stand -/
def GOk (g : List (Nat × List D)) (h : Hh) : Prop := ∀ p ∈ g, h p.1 = some (.lst p.2) ∨ h p.1 = some (.rol p.2)
/-- a walk over items -/
def itr (g : List (Nat × List D)) (turn : D → En → Hh → (En → Hh → Prop) → Prop) (fin : En → Hh → Prop) : List D → En → Hh → Prop
  | [], σ, h => GOk g h ∧ fin σ h
  | x :: xs, σ, h => GOk g h ∧ turn x σ h fun σ' h' => itr g turn fin xs σ' h'
def whl (c : En → Hh → (Bool → Hh → Prop) → Prop) (b : En → Hh → (En → Hh → Prop) → Prop) (fin : En → Hh → Prop) : Nat → En → Hh → Prop
  | 0, _, _ => False
  | n + 1, σ, h => c σ h fun t h1 => if t = true then b σ h1 fun σ2 h2 => whl c b fin n σ2 h2 else fin σ h1
def wipeD (σ : En) : List Nat → En
  | [] => σ
  | v :: vs => (wipeD σ vs).set v none
def setAll : List Nat → List D → En → En
  | i :: is, d :: ds, σ => setAll is ds (σ.set i (some d))
  | _, _, σ => σ
/-- the int of an int -/
def asInt (d : D) (Q : Int → Prop) : Prop := match d with | .int i => Q i | _ => False

mutual
def wpE : E → En → Hh → PX → PV → Prop
  | .lit l, _, h, _, Q => Q l.d h
  | .var i, σ, h, _, Q => ∃ d, σ[i]? = some (some d) ∧ Q d h
  | .bin op a b, σ, h, X, Q => wpE a σ h X fun x h1 => wpE b σ h1 X fun y h2 => opB op x y h2 Q
  | .neg a, σ, h, X, Q => wpE a σ h X fun x h1 => asInt x fun i => Q (.int (-i)) h1
  | .not a, σ, h, X, Q => wpE a σ h X fun x h1 => ∃ t, truth h1 x = some t ∧ Q (.bl (!t)) h1
  | .and a b, σ, h, X, Q => wpE a σ h X fun x h1 => ∃ t, truth h1 x = some t ∧ if t = true then wpE b σ h1 X Q else Q x h1
  | .or a b, σ, h, X, Q => wpE a σ h X fun x h1 => ∃ t, truth h1 x = some t ∧ if t = true then Q x h1 else wpE b σ h1 X Q
  | .cmp op a b, σ, h, X, Q => wpE a σ h X fun x h1 => wpE b σ h1 X fun y h2 => opC op x y h2 Q
  | .chain op op2 a b c, σ, h, X, Q => wpE a σ h X fun x h1 => wpE b σ h1 X fun y h2 => opC op x y h2 fun z h3 => ∃ t, z = .bl t ∧
      if t = true then wpE c σ h3 X fun w h4 => opC op2 y w h4 Q else Q (.bl false) h3
  | .ite c a b, σ, h, X, Q => wpE c σ h X fun x h1 => ∃ t, truth h1 x = some t ∧ if t = true then wpE a σ h1 X Q else wpE b σ h1 X Q
  | .tup es, σ, h, X, Q => wpA es σ h X fun xs h1 => xs.length ≤ sz ∧ Q (.tup xs) h1
  | .lst es, σ, h, X, Q => wpA es σ h X fun xs h1 => xs.length ≤ sz ∧ ∀ p, h1 p = none → Q (.ref p) (up h1 p (.lst xs))
  | .dnew, _, h, _, Q => ∀ p, h p = none → Q (.ref p) (up h p (.dct []))
  | .dnewT, _, h, _, Q => ∀ p, h p = none → Q (.ref p) (up h p (.dcT []))
  | .ddisT k v, σ, h, X, Q => ∀ p, h p = none → wpE k σ (up h p (.dcT [])) X fun x h1 => wpE v σ h1 X fun y h2 => isKeyT x = true ∧ h2 p = some (.dcT []) ∧ Q (.ref p) (up h2 p (.dcT [(x, y)]))
  | .dget o k d, σ, h, X, Q => wpE o σ h X fun x h1 => isDct h1 x = true ∧ wpE k σ h1 X fun y h2 => wpA d σ h2 X fun zs h3 => getD x y zs h3 Q
  | .fld c o f, σ, h, X, Q => wpE o σ h X fun x h1 => ∃ a fs d, x = .ref a ∧ h1 a = some (.obj c fs) ∧ fs.lookup f = some d ∧ Q d h1
  | .new c F es, σ, h, X, Q => wpA es σ h X fun xs h1 => ∀ p, h1 p = none → wpF F (.ref p :: xs) (up h1 p (.obj c [])) X fun v h2 => v = .non ∧ Q (.ref p) h2
  | .mcall c m F o es, σ, h, X, Q => wpE o σ h X fun x h1 => ∃ a fs, x = .ref a ∧ h1 a = some (.obj c fs) ∧ fs.lookup m = none ∧ wpA es σ h1 X fun xs h2 => wpF F (x :: xs) h2 X Q
  | .idx a i, σ, h, X, Q => wpE a σ h X fun x h1 => wpE i σ h1 X fun y h2 => opIx x y h2 Q
  | .slc a lo hi, σ, h, X, Q => wpE a σ h X fun x h1 => wpO lo σ h1 X fun l h2 => wpO hi σ h2 X fun u h3 => opSl x l u h3 Q
  | .call _ F es, σ, h, X, Q => wpA es σ h X fun xs h1 => wpF F xs h1 X Q
  | .bf f es, σ, h, X, Q => wpA es σ h X fun xs h1 => opF f xs h1 Q
  | .meth m o es, σ, h, X, Q => wpE o σ h X fun x h1 => tyD h1 x = some m.ty ∧ wpA es σ h1 X fun xs h2 => opM m x xs h2 Q
  | .comp own t it c e, σ, h, X, Q => wpI it σ h X fun items g h1 => ∀ p, h1 p = none →
      itr g (fun x _ h2 k => wpTg t x (wipeD σ own) fun σ1 => wpC c σ1 h2 (fun _ _ => False) fun b h3 =>
        if b = true then wpE e σ1 h3 (fun _ _ => False) fun y h4 => ∃ acc, h4 p = some (.lst acc) ∧ acc.length < sz ∧ k σ (up h4 p (.lst (acc ++ [y]))) else k σ h3)
        (fun _ h2 => Q (.ref p) h2) items σ (up h1 p (.lst []))
  | .dcomp own t it c ke ve, σ, h, X, Q => wpI it σ h X fun items g h1 => ∀ p, h1 p = none →
      itr g (fun x _ h2 k => wpTg t x (wipeD σ own) fun σ1 => wpC c σ1 h2 (fun _ _ => False) fun b h3 =>
        if b = true then wpE ke σ1 h3 (fun _ _ => False) fun y h4 => wpE ve σ1 h4 (fun _ _ => False) fun z h5 => ∃ acc, h5 p = some (.dct acc) ∧ isKey y = true ∧ acc.length < sz ∧ k σ (up h5 p (.dct (stor acc y z))) else k σ h3)
        (fun _ h2 => Q (.ref p) h2) items σ (up h1 p (.dct []))
def wpO : Op → En → Hh → PX → (Option Int → Hh → Prop) → Prop
  | .none, _, h, _, Q => Q none h
  | .some e, σ, h, X, Q => wpE e σ h X fun d h1 => asInt d fun i => Q (some i) h1
def wpC : Op → En → Hh → PX → (Bool → Hh → Prop) → Prop
  | .none, _, h, _, Q => Q true h
  | .some e, σ, h, X, Q => wpE e σ h X fun d h1 => ∃ t, truth h1 d = some t ∧ Q t h1
def wpA : As → En → Hh → PX → (List D → Hh → Prop) → Prop
  | .nil, _, h, _, Q => Q [] h
  | .cons e es, σ, h, X, Q => wpE e σ h X fun d h1 => wpA es σ h1 X fun ds h2 => Q (d :: ds) h2
def wpI : It → En → Hh → PX → (List D → List (Nat × List D) → Hh → Prop) → Prop
  | .each e, σ, h, X, Q => wpE e σ h X fun d h1 => match d with
    | .tup xs => Q xs [] h1
    | .ref a => ∃ xs, (h1 a = some (.lst xs) ∨ h1 a = some (.rol xs)) ∧ Q xs [(a, xs)] h1
    | _ => False
  | .rng1 a, σ, h, X, Q => wpE a σ h X fun d h1 => asInt d fun j => -(2 ^ 62) ≤ j ∧ j < 2 ^ 62 ∧ Q ((List.range j.toNat).map fun i : Nat => .int i) [] h1
  | .rng2 a b, σ, h, X, Q => wpE a σ h X fun d h1 => wpE b σ h1 X fun d2 h2 => asInt d fun i => asInt d2 fun j =>
      (-(2 ^ 62) ≤ i ∧ i < 2 ^ 62 ∧ -(2 ^ 62) ≤ j ∧ j < 2 ^ 62) ∧ Q ((List.range (j - i).toNat).map fun n : Nat => .int (i + n)) [] h2
  | .enum e, σ, h, X, Q => wpE e σ h X fun d h1 => match d with
    | .tup xs => Q (xs.mapIdx fun i x => .tup [.int i, x]) [] h1
    | .ref a => ∃ xs, (h1 a = some (.lst xs) ∨ h1 a = some (.rol xs)) ∧ Q (xs.mapIdx fun i x => .tup [.int i, x]) [(a, xs)] h1
    | _ => False
  | .zip a b, σ, h, X, Q => wpE a σ h X fun d h1 => wpE b σ h1 X fun d2 h2 => match d, d2 with
    | .tup xs, .tup ys => Q (List.zipWith (fun x y => .tup [x, y]) xs ys) [] h2
    | .ref p, .ref q => ∃ xs ys, (h2 p = some (.lst xs) ∨ h2 p = some (.rol xs)) ∧ (h2 q = some (.lst ys) ∨ h2 q = some (.rol ys)) ∧ Q (List.zipWith (fun x y => .tup [x, y]) xs ys) [(p, xs), (q, ys)] h2
    | _, _ => False
def wpS : S → En → Hh → PX → Po → Prop
  | .expr e, σ, h, X, P => wpE e σ h X fun _ h1 => P.nx σ h1
  | .asg t e, σ, h, X, P => wpE e σ h X fun d h1 => wpTg t d σ fun σ1 => P.nx σ1 h1
  | .par ts es, σ, h, X, P => wpA es σ h X fun ds h1 => ds.length = ts.length ∧ P.nx (setAll ts ds σ) h1
  | .asgIx o i e, σ, h, X, P => wpE e σ h X fun d h1 => wpE o σ h1 X fun x h2 => wpE i σ h2 X fun y h3 => match x with
    | .ref a => match h3 a with
      | some (.lst xs) => asInt y fun k => ∃ j, L2.ixN xs.length k = some j ∧ P.nx σ (up h3 a (.lst (xs.set j d)))
      | some (.dct kvs) => isKey y = true ∧ kvs.length < sz ∧ P.nx σ (up h3 a (.dct (stor kvs y d)))
      | some (.dcT kvs) => isKeyT y = true ∧ kvs.length < sz ∧ P.nx σ (up h3 a (.dcT (stor kvs y d)))
      | _ => False
    | _ => False
  | .fset c o f e, σ, h, X, P => wpE e σ h X fun d h1 => wpE o σ h1 X fun x h2 => ∃ a fs, x = .ref a ∧ h2 a = some (.obj c fs) ∧ fs.length < 1000 ∧ P.nx σ (up h2 a (.obj c (putS f d fs)))
  | .aug op i e, σ, h, X, P => ∃ x, σ[i]? = some (some x) ∧ wpE e σ h X fun y h1 => match op, x, y with
    | .add, .int a, .int b => P.nx (σ.set i (some (.int (a + b)))) h1
    | .sub, .int a, .int b => P.nx (σ.set i (some (.int (a - b)))) h1
    | _, _, _ => False
  | .ret e, σ, h, X, P => wpE e σ h X P.rt
  | .ifs c a b, σ, h, X, P => wpE c σ h X fun d h1 => ∃ t, truth h1 d = some t ∧ if t = true then wpB a σ h1 X P else wpB b σ h1 X P
  | .whl c b, σ, h, X, P => ∃ n, whl (fun σ h k => wpE c σ h X fun d h1 => ∃ t, truth h1 d = some t ∧ k t h1) (fun σ h k => wpB b σ h X { P with nx := k, ct := k, bk := P.nx }) P.nx n σ h
  | .for_ t it b, σ, h, X, P => wpI it σ h X fun items g h1 => itr g (fun x σ h k => wpTg t x σ fun σ1 => wpB b σ1 h X { P with nx := k, ct := k, bk := P.nx }) P.nx items σ h1
  | .raise c es, σ, h, X, _ => wpA es σ h X fun ds h1 => X ⟨c, ds⟩ h1
  | .pass, σ, h, _, P => P.nx σ h
  | .brk, σ, h, _, P => P.bk σ h
  | .cont, σ, h, _, P => P.ct σ h
def wpB : B → En → Hh → PX → Po → Prop
  | .nil, σ, h, _, P => P.nx σ h
  | .cons s b, σ, h, X, P => wpS s σ h X { P with nx := fun σ1 h1 => wpB b σ1 h1 X P }
def wpF : Fn → List D → Hh → PX → PV → Prop
  | .mk np ns body, xs, h, X, Q => xs.length = np ∧ wpB body (xs.map some ++ List.replicate (ns - np) none) h X ⟨fun _ h1 => Q .non h1, Q, fun _ _ => False, fun _ _ => False⟩
end
end Mp
/-! Own data and cells against the abstract heap of HandS. -/
namespace Mp
open PySem PySem.Spec L2
/-- the written part and the world (the hashes of keys) -/
structure Frag where
  K : PySem.W.Frag
  w : World
instance : CoeOut Frag PySem.W.Frag := ⟨Frag.K⟩
abbrev XF (X : Cx) : Frag := ⟨X.K, X.w⟩
def S2 (x : List Nat) : Str := ⟨x.toArray⟩
theorem S2_len (x : List Nat) : (S2 x).length = x.length := by unfold S2 Str.length; simp
theorem S2_app (x y : List Nat) : S2 x ++ S2 y = S2 (x ++ y) := by
  show Str.append _ _ = _
  unfold S2 Str.append; simp
theorem S2_cps (x : List Nat) : (S2 x).cps.toList = x := by unfold S2; simp
theorem S2_inj {x y : List Nat} (h : S2 x = S2 y) : x = y := by
  have := congrArg (fun s : Str => s.cps.toList) h
  simpa [S2] using this

/-- a list that nothing may write -/
def SqF (K : Frag) (H : Hp) (a : Addr) (xs : List V) : Prop := (∃ o, H a = some (.frz o (.lst xs))) ∨
  ∃ (o : Obj) (its : Array Value) (n : Nat), K.K.lookup a = some o ∧ o.cls = .type "list" ∧ o.dict = none ∧ o.data = .seq its n ∧ its.size ≤ sizeLine ∧ Vals xs its.toList
theorem SqF.l {K : Frag} {H : Hp} {a : Addr} {xs : List V} (h : SqF K H a xs) : SqL K H a xs := by
  rcases h with ⟨o, h⟩ | h
  · exact .inl (.inr ⟨o, h⟩)
  · exact .inr h
mutual
inductive Rep (K : Frag) (H : Hp) : D → V → Prop
  | non : Rep K H .non .non
  | bl (b : Bool) : Rep K H (.bl b) (.bl b)
  | int (i : Int) : Rep K H (.int i) (.int i)
  | str (x : List Nat) : Rep K H (.str x) (.str (S2 x))
  | tup {a : Addr} {ds : List D} {vs : List V} : SqT K H a vs → Reps K H ds vs → Rep K H (.tup ds) (.ref a)
  | lst {a : Addr} {ds : List D} {vs : List V} : SqF K H a vs → Reps K H ds vs → Rep K H (.lst ds) (.ref a)
  | ref (a : Addr) : Rep K H (.ref a) (.ref a)
inductive Reps (K : Frag) (H : Hp) : List D → List V → Prop
  | nil : Reps K H [] []
  | cons {d : D} {v : V} {ds : List D} {vs : List V} : Rep K H d v → Reps K H ds vs → Reps K H (d :: ds) (v :: vs)
end
/-- tuples and frozen things stand -/
structure Tst (H H' : Hp) : Prop where
  t : ∀ b xs, H b = some (.tup xs) → H' b = some (.tup xs)
  f : ∀ b o u, H b = some (.frz o u) → H' b = some (.frz o u)
theorem Tst.refl (H : Hp) : Tst H H := ⟨fun _ _ h => h, fun _ _ _ h => h⟩
theorem Tst.trans {H H1 H2 : Hp} (a : Tst H H1) (b : Tst H1 H2) : Tst H H2 := ⟨fun c xs h => b.t c xs (a.t c xs h), fun c o u h => b.f c o u (a.f c o u h)⟩
theorem Tst.sq {K : Frag} {H H' : Hp} (t : Tst H H') {a : Addr} {xs : List V} (h : SqT K H a xs) : SqT K H' a xs := by
  rcases h with (h | ⟨o, h⟩) | h
  · exact .inl (.inl (t.t _ _ h))
  · exact .inl (.inr ⟨o, t.f _ _ _ h⟩)
  · exact .inr h
theorem Tst.sf {K : Frag} {H H' : Hp} (t : Tst H H') {a : Addr} {xs : List V} (h : SqF K H a xs) : SqF K H' a xs := by
  rcases h with ⟨o, h⟩ | h
  · exact .inl ⟨o, t.f _ _ _ h⟩
  · exact .inr h
mutual
theorem Rep.mono {K : Frag} {H H' : Hp} (t : Tst H H') : ∀ {d : D} {v : V}, Rep K H d v → Rep K H' d v
  | _, _, .non => .non
  | _, _, .bl b => .bl b
  | _, _, .int i => .int i
  | _, _, .str x => .str x
  | _, _, .tup h r => .tup (t.sq h) (Reps.mono t r)
  | _, _, .lst h r => .lst (t.sf h) (Reps.mono t r)
  | _, _, .ref a => .ref a
theorem Reps.mono {K : Frag} {H H' : Hp} (t : Tst H H') : ∀ {ds : List D} {vs : List V}, Reps K H ds vs → Reps K H' ds vs
  | _, _, .nil => .nil
  | _, _, .cons r s => .cons (Rep.mono t r) (Reps.mono t s)
end
section
variable {K : Frag} {H H' : Hp} {ds es : List D} {vs ws : List V} {d e : D} {v w : V}
theorem Reps.length : ∀ {ds : List D} {vs : List V}, Reps K H ds vs → ds.length = vs.length
  | _, _, .nil => rfl
  | _, _, .cons _ s => congrArg (· + 1) (Reps.length s)
theorem Reps.get : ∀ {ds : List D} {vs : List V} {i : Nat} {d : D}, Reps K H ds vs → ds[i]? = some d → ∃ v, vs[i]? = some v ∧ Rep K H d v
  | _, _, i, _, .nil, e => by simp at e
  | _, _, 0, _, .cons r _, e => by simp at e; subst e; exact ⟨_, rfl, r⟩
  | _, _, i + 1, _, .cons _ s, e => by
    obtain ⟨v, h1, h2⟩ := Reps.get (i := i) s (by simpa using e)
    exact ⟨v, by simpa using h1, h2⟩
theorem Reps.get' : ∀ {ds : List D} {vs : List V} {i : Nat} {v : V}, Reps K H ds vs → vs[i]? = some v → ∃ d, ds[i]? = some d ∧ Rep K H d v
  | _, _, i, _, .nil, e => by simp at e
  | _, _, 0, _, .cons r _, e => by simp at e; subst e; exact ⟨_, rfl, r⟩
  | _, _, i + 1, _, .cons _ s, e => by
    obtain ⟨v, h1, h2⟩ := Reps.get' (i := i) s (by simpa using e)
    exact ⟨v, by simpa using h1, h2⟩
theorem Reps.app : ∀ {ds es : List D} {vs ws : List V}, Reps K H ds vs → Reps K H es ws → Reps K H (ds ++ es) (vs ++ ws)
  | _, _, _, _, .nil, s => s
  | _, _, _, _, .cons r t, s => .cons r (Reps.app t s)
theorem Reps.set (r : Rep K H d v) : ∀ {ds : List D} {vs : List V} (i : Nat), Reps K H ds vs → Reps K H (ds.set i d) (vs.set i v)
  | _, _, _, .nil => .nil
  | _, _, 0, .cons _ t => .cons r t
  | _, _, i + 1, .cons q t => .cons q (Reps.set r i t)
theorem Reps.take : ∀ {ds : List D} {vs : List V} (n : Nat), Reps K H ds vs → Reps K H (ds.take n) (vs.take n)
  | _, _, 0, _ => .nil
  | _, _, _ + 1, .nil => .nil
  | _, _, n + 1, .cons r t => .cons r (Reps.take n t)
theorem Reps.drop : ∀ {ds : List D} {vs : List V} (n : Nat), Reps K H ds vs → Reps K H (ds.drop n) (vs.drop n)
  | _, _, 0, r => r
  | _, _, _ + 1, .nil => .nil
  | _, _, n + 1, .cons _ t => Reps.drop n t
theorem Reps.flat : ∀ (n : Nat) {ds : List D} {vs : List V}, Reps K H ds vs → Reps K H (List.replicate n ds).flatten (List.replicate n vs).flatten
  | 0, _, _, _ => .nil
  | n + 1, _, _, r => by
    rw [List.replicate_succ, List.replicate_succ, List.flatten_cons, List.flatten_cons]
    exact Reps.app r (Reps.flat n r)
end

/-! ### cells -/
def keyV : D → Option Key
  | .int i => some (.inl i)
  | .str x => some (.inr (S2 x))
  | _ => none
inductive KReps (K : Frag) (H : Hp) : List (D × D) → List (Key × V) → Prop
  | nil : KReps K H [] []
  | cons {a d : D} {k : Key} {v : V} {ds : List (D × D)} {ks : List (Key × V)} : keyV a = some k → Rep K H d v → KReps K H ds ks → KReps K H ((a, d) :: ds) ((k, v) :: ks)
mutual
def keyN : D → Option NestedKey
  | .non => some .none
  | .int i => some (.num i)
  | .str x => some (.text (S2 x))
  | .tup xs => (keyNs xs).map .tup
  | _ => none
def keyNs : List D → Option (List NestedKey)
  | [] => some []
  | x :: xs => match keyN x, keyNs xs with
    | some k, some ks => some (k :: ks)
    | _, _ => none
end
def entN (w : World) (x : NestedKey × Addr × Value) : DictEntry := ⟨x.1.hash w, .ref x.2.1, x.2.2⟩
/-- the dict at a holds just these entries -/
def NO (a : Addr) (es : List DictEntry) : HO := .ext fun h => ∃ o ep, h.get? a = some o ∧ o.ExactDict ∧ o.data = .dict es.toArray ep
inductive NReps (K : Frag) (H : Hp) : List (D × D) → List (NestedKey × Addr × Value) → Prop
  | nil : NReps K H [] []
  | cons {k d : D} {nk : NestedKey} {b : Addr} {v : V} {u : Value} {ks : List (D × D)} {xs : List (NestedKey × Addr × Value)} : isKeyT k = true → keyN k = some nk → Rep K H k (.ref b) → Rep K H d v → RelV v u → NReps K H ks xs → NReps K H ((k, d) :: ks) ((nk, b, u) :: xs)
theorem NReps.mono {K : Frag} {H H' : Hp} (t : Tst H H') : ∀ {ks : List (D × D)} {xs : List (NestedKey × Addr × Value)}, NReps K H ks xs → NReps K H' ks xs
  | _, _, .nil => .nil
  | _, _, .cons a b c d e r => .cons a b (c.mono t) (d.mono t) e (NReps.mono t r)
/-- the class under a name -/
def ClsN (K : Frag) (c : Str) (C : Addr) : Prop := PySem.W.nsIn K.K mainGlobals c = some (some (.ref C))
theorem ClsN.eq {K : Frag} {c : Str} {C C' : Addr} (a : ClsN K c C) (b : ClsN K c C') : C = C' := by
  unfold ClsN at a b
  rw [a] at b
  injection b with b
  injection b with b
  injection b
inductive FReps (K : Frag) (H : Hp) : List (Str × D) → List (Str × V) → Prop
  | nil : FReps K H [] []
  | cons {f : Str} {d : D} {v : V} {fs : List (Str × D)} {vs : List (Str × V)} : Rep K H d v → FReps K H fs vs → FReps K H ((f, d) :: fs) ((f, v) :: vs)
theorem FReps.mono {K : Frag} {H H' : Hp} (t : Tst H H') : ∀ {fs : List (Str × D)} {vs : List (Str × V)}, FReps K H fs vs → FReps K H' fs vs
  | _, _, .nil => .nil
  | _, _, .cons r s => .cons (r.mono t) (FReps.mono t s)
theorem FReps.length {K : Frag} {H : Hp} : ∀ {fs : List (Str × D)} {vs : List (Str × V)}, FReps K H fs vs → fs.length = vs.length
  | _, _, .nil => rfl
  | _, _, .cons _ s => congrArg (· + 1) s.length
theorem FReps.look {K : Frag} {H : Hp} {f : Str} : ∀ {fs : List (Str × D)} {vs : List (Str × V)}, FReps K H fs vs → (∃ d v, fs.lookup f = some d ∧ vs.lookup f = some v ∧ Rep K H d v) ∨ (fs.lookup f = none ∧ vs.lookup f = none)
  | _, _, .nil => .inr ⟨rfl, rfl⟩
  | _, _, .cons (f := g) r s => by
    rw [List.lookup_cons, List.lookup_cons]
    cases f == g with
    | true => exact .inl ⟨_, _, rfl, rfl, r⟩
    | false => exact s.look
theorem FReps.put {K : Frag} {H : Hp} {f : Str} {d : D} {v : V} (r : Rep K H d v) : ∀ {fs : List (Str × D)} {vs : List (Str × V)}, FReps K H fs vs → FReps K H (putS f d fs) (putF f v vs)
  | _, _, .nil => .cons r .nil
  | _, _, .cons (f := g) q s => by
    unfold putS putF
    by_cases e : g = f
    · rw [if_pos e, if_pos e]; exact .cons r s
    · rw [if_neg e, if_neg e]; exact .cons q (s.put r)
def CellOk (K : Frag) (H : Hp) (a : Addr) : Cell → Prop
  | .lst ds => ∃ vs, H a = some (.lst vs) ∧ Reps K H ds vs
  | .rol ds => ∃ o vs, H a = some (.frz o (.lst vs)) ∧ Reps K H ds vs
  | .dct kvs => ∃ ks, H a = some (.dK ks) ∧ KReps K H kvs ks
  | .dcT kvs => ∃ xs, H a = some (NO a (xs.map (entN K.w))) ∧ NReps K H kvs xs ∧ (a == sysModules) = false ∧ kvs.length ≤ sz ∧ (xs.map (·.1)).Nodup
  | .obj c fs => ∃ C dx vs, ClsN K c C ∧ H a = some (.ins C dx vs) ∧ FReps K H fs vs
def HRep (K : Frag) (h : Hh) (H : Hp) : Prop := ∀ a c, h a = some c → CellOk K H a c
theorem KReps.mono {K : Frag} {H H' : Hp} (t : Tst H H') : ∀ {ds : List (D × D)} {ks : List (Key × V)}, KReps K H ds ks → KReps K H' ds ks
  | _, _, .nil => .nil
  | _, _, .cons e r s => .cons e (r.mono t) (KReps.mono t s)
section
variable {K : Frag} {H H' : Hp} {h : Hh} {a : Addr} {c : Cell}
theorem CellOk.there (x : CellOk K H a c) : ∃ o, H a = some o := by
  cases c with
  | lst ds => obtain ⟨vs, e, _⟩ := x; exact ⟨_, e⟩
  | rol ds => obtain ⟨o, vs, e, _⟩ := x; exact ⟨_, e⟩
  | dct kvs => obtain ⟨ks, e, _⟩ := x; exact ⟨_, e⟩
  | dcT kvs => obtain ⟨ks, e, _⟩ := x; exact ⟨_, e⟩
  | obj _ _ => obtain ⟨C, dx, vs, _, e, _⟩ := x; exact ⟨_, e⟩
theorem HRep.fresh (r : HRep K h H) (e : H a = none) : h a = none := by
  cases q : h a with
  | none => rfl
  | some c =>
    obtain ⟨o, z⟩ := (r a c q).there
    rw [e] at z; cases z
theorem CellOk.mono (t : Tst H H') (e : H' a = H a) (x : CellOk K H a c) : CellOk K H' a c := by
  cases c with
  | lst ds => obtain ⟨vs, q, r⟩ := x; exact ⟨vs, e.trans q, r.mono t⟩
  | rol ds => obtain ⟨o, vs, q, r⟩ := x; exact ⟨o, vs, e.trans q, r.mono t⟩
  | dct kvs => obtain ⟨ks, q, r⟩ := x; exact ⟨ks, e.trans q, r.mono t⟩
  | dcT kvs => obtain ⟨ks, q, r, z⟩ := x; exact ⟨ks, e.trans q, r.mono t, z⟩
  | obj _ _ => obtain ⟨C, dx, vs, n, q, r⟩ := x; exact ⟨C, dx, vs, n, e.trans q, r.mono t⟩
theorem tst_new {o : HO} (e : H a = none) : Tst H (upd H a o) :=
  ⟨fun b xs q => by rw [upd_ne (ne_of_none q e)]; exact q, fun b o u q => by rw [upd_ne (ne_of_none q e)]; exact q⟩
/-- a new tracked thing that is no cell (a tuple) -/
theorem HRep.new {o : HO} (r : HRep K h H) (e : H a = none) : HRep K h (upd H a o) := fun b c q => by
  have x := r b c q
  obtain ⟨ob, z⟩ := x.there
  exact x.mono (tst_new e) (upd_ne (ne_of_none z e))
/-- a new cell -/
theorem HRep.mk {o : HO} (r : HRep K h H) (e : H a = none) (x : CellOk K (upd H a o) a c) : HRep K (up h a c) (upd H a o) := fun b c' q => by
  by_cases hb : b = a
  · subst hb; rw [up_same] at q; cases q; exact x
  · rw [up_ne hb] at q; exact r.new e b c' q
/-- what may be written -/
def WrOk (H : Hp) (a : Addr) : Prop := (∃ vs, H a = some (.lst vs)) ∨ (∃ ks, H a = some (.dK ks)) ∨ (∃ φ, H a = some (.ext φ)) ∨ ∃ C dx fs, H a = some (.ins C dx fs)
theorem tst_wr {o : HO} (w : WrOk H a) : Tst H (upd H a o) := by
  refine ⟨fun b xs q => ?_, fun b ob u q => ?_⟩
  · have n : b ≠ a := by
      rintro rfl
      rcases w with ⟨vs, e⟩ | ⟨ks, e⟩ | ⟨φ, e⟩ | ⟨C, dx, fs, e⟩ <;> rw [e] at q <;> cases q
    rw [upd_ne n]; exact q
  · have n : b ≠ a := by
      rintro rfl
      rcases w with ⟨vs, e⟩ | ⟨ks, e⟩ | ⟨φ, e⟩ | ⟨C, dx, fs, e⟩ <;> rw [e] at q <;> cases q
    rw [upd_ne n]; exact q
theorem HRep.wr {o : HO} (r : HRep K h H) (w : WrOk H a) (x : CellOk K (upd H a o) a c) : HRep K (up h a c) (upd H a o) := fun b c' q => by
  by_cases hb : b = a
  · subst hb; rw [up_same] at q; cases q; exact x
  · rw [up_ne hb] at q; exact (r b c' q).mono (tst_wr w) (upd_ne hb)
end
/-- the slots -/
structure ERep (K : Frag) (H : Hp) (σd : En) (σ : St) : Prop where
  len : σd.length = σ.length
  at_ : ∀ (i : Nat) (d : D), σd[i]? = some (some d) → ∃ v, σ[i]? = some (some v) ∧ Rep K H d v
theorem ERep.mono {K : Frag} {H H' : Hp} {σd : En} {σ : St} (t : Tst H H') (r : ERep K H σd σ) : ERep K H' σd σ :=
  ⟨r.len, fun i d e => let ⟨v, e1, q⟩ := r.at_ i d e; ⟨v, e1, q.mono t⟩⟩
theorem ERep.set {K : Frag} {H : Hp} {σd : En} {σ : St} {d : D} {v : V} (r : ERep K H σd σ) (i : Nat) (q : Rep K H d v) : ERep K H (σd.set i (some d)) (σ.set i (some v)) := by
  refine ⟨by rw [List.length_set, List.length_set, r.len], fun j e z => ?_⟩
  by_cases hj : i = j
  · subst hj
    have hl : i < σd.length := by
      by_cases hl : i < σd.length
      · exact hl
      · rw [List.getElem?_eq_none (by rw [List.length_set]; omega)] at z; cases z
    rw [List.getElem?_set_self hl] at z
    cases z
    exact ⟨v, by rw [List.getElem?_set_self (by rw [← r.len]; exact hl)], q⟩
  · rw [List.getElem?_set_ne hj] at z
    obtain ⟨w, e1, e2⟩ := r.at_ j e z
    exact ⟨w, by rw [List.getElem?_set_ne hj]; exact e1, e2⟩
theorem ERep.wipe {K : Frag} {H : Hp} {σd : En} {σ : St} (r : ERep K H σd σ) : ∀ vs : List Nat, ERep K H (wipeD σd vs) (L2.wipe σ vs)
  | [] => r
  | v :: vs => by
    have ih := ERep.wipe r vs
    unfold wipeD L2.wipe
    refine ⟨by rw [List.length_set, List.length_set, ih.len], fun j e z => ?_⟩
    by_cases hj : v = j
    · subst hj
      by_cases hl : v < (wipeD σd vs).length
      · rw [List.getElem?_set_self hl] at z; cases z
      · rw [List.getElem?_eq_none (by rw [List.length_set]; omega)] at z; cases z
    · rw [List.getElem?_set_ne hj] at z
      obtain ⟨w, e1, e2⟩ := ih.at_ j e z
      exact ⟨w, by rw [List.getElem?_set_ne hj]; exact e1, e2⟩

/-! ### what a reading hands on -/
/-- all that the own end allows the other end allows -/
def NCl (K : Frag) (Qd : PV) (Q : VK) (H : Hp) : Prop := ∀ d h' v H', Qd d h' → Rep K H' d v → HRep K h' H' → Tst H H' → Q v H'
theorem NCl.mono {K : Frag} {Qd : PV} {Q : VK} {H H' : Hp} (n : NCl K Qd Q H) (t : Tst H H') : NCl K Qd Q H' := fun d h' v H'' q r s u => n d h' v H'' q r s (t.trans u)
/-- no exception leaves (stage 1) -/
def XCl (K : Frag) (Ec : XK) (Xd : PX) (H : Hp) : Prop := ∀ ex h', ¬ Xd ex h'
theorem XCl.mono {K : Frag} {Ec : XK} {Xd : PX} {H H' : Hp} (n : XCl K Ec Xd H) (t : Tst H H') : XCl K Ec Xd H' := n
def TEd (K : Frag) (Ec : XK) (e : E) : TE := fun σ H Q => ∃ σd h Qd Xd, ERep K H σd σ ∧ HRep K h H ∧ wpE e σd h Xd Qd ∧ NCl K Qd Q H ∧ XCl K Ec Xd H
/-- a test: its truth -/
def TTd (K : Frag) (Ec : XK) (e : E) : TT := fun σ H Q => ∃ σd h, ∃ (R : D → Hh → Prop), ∃ Xd, ERep K H σd σ ∧ HRep K h H ∧ wpE e σd h Xd R ∧
  (∀ d h' H', R d h' → HRep K h' H' → Tst H H' → ∃ t, truth h' d = some t ∧ Q t H') ∧ XCl K Ec Xd H
def TAd (K : Frag) (Ec : XK) (es : As) : TA := fun σ H Q => ∃ σd h, ∃ (Qd : List D → Hh → Prop), ∃ Xd, ERep K H σd σ ∧ HRep K h H ∧ wpA es σd h Xd Qd ∧
  (∀ ds h' vs H', Qd ds h' → Reps K H' ds vs → HRep K h' H' → Tst H H' → Q vs H') ∧ XCl K Ec Xd H
def spF (K : Frag) (F : Fn) : Sp := fun vs H Q Ec => ∃ ds h Qd Xd, Reps K H ds vs ∧ HRep K h H ∧ wpF F ds h Xd Qd ∧ NCl K Qd Q H ∧ XCl K Ec Xd H
theorem PE.imp {X : Cx} {e : Expr} {t t' : TE} (p : PE X e t) (h : ∀ σ H Q, t' σ H Q → t σ H Q) : PE X e t' := ⟨fun pins s σ H Q I q => p.run pins s σ H Q I (h σ H Q q)⟩
theorem PT.imp {X : Cx} {e : Expr} {t t' : TT} (p : PT X e t) (h : ∀ σ H Q, t' σ H Q → t σ H Q) : PT X e t' := ⟨fun pins s σ H Q I q => p.run pins s σ H Q I (h σ H Q q)⟩
theorem PA.imp {X : Cx} {es : List Expr} {t t' : TA} (p : PA X es t) (h : ∀ σ H Q, t' σ H Q → t σ H Q) : PA X es t' := ⟨fun ps pins s σ H Q I q => p.run ps pins s σ H Q I (h σ H Q q)⟩
theorem PS.imp {X : Cx} {e : Stmt} {t t' : TS} (p : PS X e t) (h : ∀ D σ H, t' D σ H → t D σ H) : PS X e t' := ⟨fun pins s σ H D I q => p.run pins s σ H D I (h D σ H q)⟩
theorem PSs.imp {X : Cx} {e : List Stmt} {t t' : TS} (p : PSs X e t) (h : ∀ D σ H, t' D σ H → t D σ H) : PSs X e t' := ⟨fun pins s σ H D I q => p.run pins s σ H D I (h D σ H q)⟩
end Mp
/-! Operators, by values: the model's over HandS against the own ones. -/
namespace Mp
open PySem PySem.Spec L2
def rB (K : Frag) (op : BOp) : R2 := fun x y H Q => ∃ dx dy h Qd, Rep K H dx x ∧ Rep K H dy y ∧ HRep K h H ∧ opB op dx dy h Qd ∧ NCl K Qd Q H
def BOp.py : BOp → Operator
  | .add => .Add | .sub => .Sub | .mul => .Mult | .fdiv => .FloorDiv | .mod => .Mod | .pow => .Pow
theorem sz_eq : (sizeLine : Nat) = sz := sizeLine_eq
section
variable {X : Cx}
theorem lst_mk {K : Frag} {H : Hp} {h : Hh} {ds : List D} {vs : List V} {p : Addr} (hr : HRep K h H) (r : Reps K H ds vs) (hp : H p = none) : HRep K (up h p (.lst ds)) (upd H p (.lst vs)) :=
  hr.mk hp ⟨vs, upd_same, r.mono (tst_new hp)⟩
theorem rep_tup {K : Frag} {H : Hp} {ds : List D} {vs : List V} {p : Addr} (r : Reps K H ds vs) (hp : H p = none) : Rep K (upd H p (.tup vs)) (.tup ds) (.ref p) :=
  .tup (SqT.of upd_same) (r.mono (tst_new hp))
theorem reps_nil {K : Frag} {H : Hp} {ds : List D} (r : Reps K H ds []) : ds = [] := by cases r; rfl
theorem HRep.l {K : Frag} {h : Hh} {H : Hp} {a : Addr} {ds : List D} (hr : HRep K h H) (e : h a = some (.lst ds)) : ∃ vs, H a = some (.lst vs) ∧ Reps K H ds vs := hr a _ e
theorem HRep.rl {K : Frag} {h : Hh} {H : Hp} {a : Addr} {ds : List D} (hr : HRep K h H) (e : h a = some (.rol ds)) : ∃ vs, SqL K H a vs ∧ Reps K H ds vs := by
  obtain ⟨o, vs, e1, r⟩ := hr a _ e
  exact ⟨vs, .inl (.inr ⟨o, e1⟩), r⟩
theorem HRep.sl {K : Frag} {h : Hh} {H : Hp} {a : Addr} {ds : List D} (hr : HRep K h H) (e : h a = some (.lst ds) ∨ h a = some (.rol ds)) : ∃ vs, SqL K H a vs ∧ Reps K H ds vs := by
  rcases e with e | e
  · obtain ⟨vs, e1, r⟩ := hr.l e
    exact ⟨vs, SqL.of e1, r⟩
  · exact hr.rl e
theorem HRep.dt {K : Frag} {h : Hh} {H : Hp} {a : Addr} {kvs : List (D × D)} (hr : HRep K h H) (e : h a = some (.dcT kvs)) : ∃ xs, H a = some (NO a (xs.map (entN K.w))) ∧ NReps K H kvs xs ∧ (a == sysModules) = false ∧ kvs.length ≤ sz ∧ (xs.map (·.1)).Nodup := hr a _ e
theorem HRep.d {K : Frag} {h : Hh} {H : Hp} {a : Addr} {kvs : List (D × D)} (hr : HRep K h H) (e : h a = some (.dct kvs)) : ∃ ks, H a = some (.dK ks) ∧ KReps K H kvs ks := hr a _ e

theorem ob_add : OpR X (binaryOp .Add) (rB (XF X) .add) := by
  intro pins s σ H x y v u Q I rx ry ⟨dx, dy, h, Qd, r1, r2, hr, w, n⟩
  unfold opB at w
  split at w
  all_goals first | (exact False.elim w) | (rename_i z; cases z; done) | skip
  · cases r1; cases r2
    exact op_add pins s σ H _ _ v u Q I rx ry ⟨_, _, rfl, rfl, n _ _ _ _ w (.int _) hr (Tst.refl _)⟩
  · rename_i a b h1 Q1 _
    cases r1; cases r2
    refine op_add_str pins s σ H _ _ v u Q I rx ry ⟨_, _, rfl, rfl, ?_, n _ _ _ _ w.2 ?_ hr (Tst.refl _)⟩
    · rw [S2_len, S2_len, sz_eq]; exact w.1
    · rw [S2_app]; exact .str _
  · rename_i xs ys _ _ _
    cases r1 with
    | tup s1 q1 =>
      cases r2 with
      | tup s2 q2 =>
        refine op_catA pins s σ H _ _ v u Q I rx ry ⟨_, _, _, _, rfl, rfl, s1, s2, ?_, fun e => ?_, fun _ e => ?_, fun _ _ p hp => ?_⟩
        · rw [← q1.length, ← q2.length, sz_eq]; exact w.1
        · subst e
          obtain rfl := reps_nil q1
          exact n _ _ _ _ w.2 (.tup s2 q2) hr (Tst.refl _)
        · subst e
          obtain rfl := reps_nil q2
          exact n _ _ _ _ w.2 (by rw [List.append_nil]; exact .tup s1 q1) hr (Tst.refl _)
        · exact n _ _ _ _ w.2 (rep_tup (q1.app q2) hp) (hr.new hp) (tst_new hp)
  · cases r1; cases r2
    obtain ⟨xs, ys, e1, e2, hz, k⟩ := w
    obtain ⟨vs, f1, q1⟩ := hr.l e1
    obtain ⟨ws, f2, q2⟩ := hr.l e2
    refine op_cat pins s σ H _ _ v u Q I rx ry ⟨_, _, _, _, rfl, rfl, f1, f2, ?_, fun p hp => ?_⟩
    · rw [← q1.length, ← q2.length, sz_eq]; exact hz
    · exact n _ _ _ _ (k p (hr.fresh hp)) (.ref p) (lst_mk hr (q1.app q2) hp) (tst_new hp)
theorem ob_sub : OpR X (binaryOp .Sub) (rB (XF X) .sub) := by
  intro pins s σ H x y v u Q I rx ry ⟨dx, dy, h, Qd, r1, r2, hr, w, n⟩
  unfold opB at w
  split at w
  all_goals first | (exact False.elim w) | (rename_i z; cases z; done) | skip
  cases r1; cases r2
  exact op_sub pins s σ H _ _ v u Q I rx ry ⟨_, _, rfl, rfl, n _ _ _ _ w (.int _) hr (Tst.refl _)⟩
set_option maxHeartbeats 4000000 in
theorem tuple_mul1 (l : Addr) (items : Array Value) (n : Nat) (dd : Option Addr) (sl : Array (Option Value)) (u : Tok) (c1 : items.isEmpty = false) :
    Meets (Builtin.«tuple.__mul__» ⟨[.ref l, .int 1 u], []⟩) (fun _ R s => s.heap.get? l = some { cls := .type "tuple", dict := dd, data := .seq items n, slots := sl } ∧ R (.ok (.ret (Value.ref l))) s) :=
  .of_wp fun prog w A R s h => by
    obtain ⟨hp, g, d, tk, os⟩ := s
    obtain ⟨hl, h⟩ := h
    have f1 := AutoSeq1.idx_int
    wp_walk using wpAny_loadPart' hl
    exact ⟨_, rfl, h⟩
/-- t * 1 is t -/
theorem op_rep1 {pins : List (Addr × Obj)} {s : Shared} {σ : St} {H : Hp} {l : Addr} {xs : List V} {u : Value} {Q : VK} (I : Inv X pins σ H s) (ry : RelV (.int 1) u) (hT : SqT X.K H l xs) (hne : xs ≠ []) (q : Q (.ref l) H) : wpAny (model X.prog X.w) X.A (binaryOp .Mult (.ref l) u) (EP X pins σ Q) X.xe s := by
  obtain ⟨t, rfl⟩ := ry
  obtain ⟨its, r, ⟨⟨cls, dd, data, sl⟩, ho, hc, n, hd⟩, hs⟩ := I.tuple hT
  simp only at hc hd
  subst hc hd
  have hi : its.toArray.isEmpty = false := by
    cases r with
    | nil => exact absurd rfl hne
    | cons _ _ => rfl
  exact wpAny_binaryOp_repeat_ref (T := "tuple") (U := "int") (by decide) ⟨_, ho, rfl⟩ (fun s' => typeIs_int s' 1 t) noFill_tuple_mul PySem.F.fills_int_mul PySem.F.slot_int_rmul repeat_tuple PySem.F.slot_int_index.lookup
    (call_meets PySem.F.slot_int_rmul (typeIs_int s 1 t) PySem.F.entry_int_rmul (PySem.F.args_int_rmul_2 _ _) (int_rmul_tuple 1 t l its.toArray n dd sl)
      ⟨ho, rfl, ⟨_, ho, rfl⟩, call_meets PySem.F.slot_tuple_mul ⟨_, ho, rfl⟩ PySem.F.entry_tuple_mul (PySem.F.args_tuple_mul_2 _ _) (tuple_mul1 l its.toArray n dd sl t hi) ⟨ho, .ref l, H, I, rfl, q⟩⟩)
theorem ob_mul : OpR X (binaryOp .Mult) (rB (XF X) .mul) := by
  intro pins s σ H x y v u Q I rx ry ⟨dx, dy, h, Qd, r1, r2, hr, w, n⟩
  unfold opB at w
  split at w
  all_goals first | (exact False.elim w) | (rename_i z; cases z; done) | skip
  · cases r1; cases r2
    rcases w.1 with m | m | m
    · exact op_mul pins s σ H _ _ v u Q I rx ry ⟨_, _, rfl, rfl, .inl m, n _ _ _ _ w.2 (.int _) hr (Tst.refl _)⟩
    · exact op_mul pins s σ H _ _ v u Q I rx ry ⟨_, _, rfl, rfl, .inr m, n _ _ _ _ w.2 (.int _) hr (Tst.refl _)⟩
    · exact op_mulW pins s σ H _ _ v u Q I rx ry ⟨_, _, rfl, rfl, m, n _ _ _ _ w.2 (.int _) hr (Tst.refl _)⟩
  · obtain ⟨hne, h1, h2, hz, k⟩ := w
    cases r2
    cases r1 with
    | tup sT rs =>
      have hl := rs.length
      have hne' : ∀ vs : List V, vs.length ≠ 0 → vs ≠ [] := fun vs a b => a (by rw [b]; rfl)
      have h0 : ∀ ds : List D, ds ≠ [] → ds.length ≠ 0 := fun ds a b => a (List.eq_nil_of_length_eq_zero b)
      by_cases e : ‹Int› = 1
      · subst e
        cases rx
        refine op_rep1 I ry sT (hne' _ (by rw [← hl]; exact h0 _ hne)) ?_
        have e2 : (List.replicate (1 : Int).toNat ‹List D›).flatten = ‹List D› := by simp
        rw [e2] at k
        exact n _ _ _ _ k (.tup sT rs) hr (Tst.refl _)
      · refine op_repT pins s σ H _ _ v u Q I rx ry ⟨_, _, _, rfl, rfl, sT, hne' _ (by rw [← hl]; exact h0 _ hne), by omega, h2, by omega, fun p hp => ?_⟩
        exact n _ _ _ _ k (rep_tup (rs.flat _) hp) (hr.new hp) (tst_new hp)
  · cases r1; cases r2
    obtain ⟨xs, e1, h1, h2, hz, k⟩ := w
    obtain ⟨vs, f1, q1⟩ := hr.l e1
    refine op_rep pins s σ H _ _ v u Q I rx ry ⟨_, _, _, rfl, rfl, f1, h1, h2, ?_, fun p hp => ?_⟩
    · rw [← q1.length, sz_eq]; exact hz
    · exact n _ _ _ _ (k p (hr.fresh hp)) (.ref p) (lst_mk hr (q1.flat _) hp) (tst_new hp)
theorem ob_fdiv : OpR X (binaryOp .FloorDiv) (rB (XF X) .fdiv) := by
  intro pins s σ H x y v u Q I rx ry ⟨dx, dy, h, Qd, r1, r2, hr, w, n⟩
  unfold opB at w
  split at w
  all_goals first | (exact False.elim w) | (rename_i z; cases z; done) | skip
  cases r1; cases r2
  exact op_fdivW pins s σ H _ _ v u Q I rx ry ⟨_, _, rfl, rfl, w.1, n _ _ _ _ w.2 (.int _) hr (Tst.refl _)⟩
theorem ob_mod : OpR X (binaryOp .Mod) (rB (XF X) .mod) := by
  intro pins s σ H x y v u Q I rx ry ⟨dx, dy, h, Qd, r1, r2, hr, w, n⟩
  unfold opB at w
  split at w
  all_goals first | (exact False.elim w) | (rename_i z; cases z; done) | skip
  cases r1; cases r2
  exact op_mod pins s σ H _ _ v u Q I rx ry ⟨_, _, rfl, rfl, w.1, n _ _ _ _ w.2 (.int _) hr (Tst.refl _)⟩
theorem ob_pow : OpR X (binaryOp .Pow) (rB (XF X) .pow) := by
  intro pins s σ H x y v u Q I rx ry ⟨dx, dy, h, Qd, r1, r2, hr, w, n⟩
  unfold opB at w
  split at w
  all_goals first | (exact False.elim w) | (rename_i z; cases z; done) | skip
  cases r1; cases r2
  exact op_pow pins s σ H _ _ v u Q I rx ry ⟨_, _, rfl, rfl, w.1, n _ _ _ _ w.2 (.int _) hr (Tst.refl _)⟩
theorem ob_ok : ∀ op : BOp, OpR X (binaryOp op.py) (rB (XF X) op)
  | .add => ob_add | .sub => ob_sub | .mul => ob_mul | .fdiv => ob_fdiv | .mod => ob_mod | .pow => ob_pow
end
end Mp
/-! Dicts whose keys are tuples, nested. -/
namespace Mp
open PySem PySem.Spec L2
theorem beq_S2' (x y : List Nat) : decide (S2 x = S2 y) = (x == y) := by
  by_cases e : x = y
  · subst e; simp
  · have : ¬ S2 x = S2 y := fun z => e (S2_inj z)
    simp [e, this]
mutual
theorem keyN_eqv : ∀ (d e : D) (k l : NestedKey), keyN d = some k → keyN e = some l → eqv d e = NestedKey.beq k l
  | .tup xs, .tup ys, k, l, h1, h2 => by
    rw [keyN] at h1 h2
    obtain ⟨ks, a, rfl⟩ := Option.map_eq_some_iff.mp h1
    obtain ⟨ls, b, rfl⟩ := Option.map_eq_some_iff.mp h2
    rw [eqv, NestedKey.beq]
    exact keyNs_eqv xs ys ks ls a b
  | .non, e, k, l, h1, h2 => by
    rw [keyN] at h1; cases h1
    cases e <;> rw [keyN] at h2 <;> first | (cases h2; done) | (cases h2; rfl) | (obtain ⟨ls, b, rfl⟩ := Option.map_eq_some_iff.mp h2; rfl)
  | .int i, e, k, l, h1, h2 => by
    rw [keyN] at h1; cases h1
    cases e <;> rw [keyN] at h2 <;> first | (cases h2; done) | (cases h2; rfl) | (obtain ⟨ls, b, rfl⟩ := Option.map_eq_some_iff.mp h2; rfl)
  | .str x, e, k, l, h1, h2 => by
    rw [keyN] at h1; cases h1
    cases e <;> rw [keyN] at h2 <;> first | (cases h2; done) | (cases h2; exact (beq_S2' _ _).symm) | (cases h2; rfl) | (obtain ⟨ls, b, rfl⟩ := Option.map_eq_some_iff.mp h2; rfl)
  | .tup xs, .non, k, l, h1, h2 => by
    have h1 : (keyNs xs).map NestedKey.tup = some k := h1
    have h2 : some NestedKey.none = some l := h2
    obtain ⟨ks, a, rfl⟩ := Option.map_eq_some_iff.mp h1
    cases h2; rfl
  | .tup xs, .int i, k, l, h1, h2 => by
    have h1 : (keyNs xs).map NestedKey.tup = some k := h1
    have h2 : some (NestedKey.num i) = some l := h2
    obtain ⟨ks, a, rfl⟩ := Option.map_eq_some_iff.mp h1
    cases h2; rfl
  | .tup xs, .str y, k, l, h1, h2 => by
    have h1 : (keyNs xs).map NestedKey.tup = some k := h1
    have h2 : some (NestedKey.text (S2 y)) = some l := h2
    obtain ⟨ks, a, rfl⟩ := Option.map_eq_some_iff.mp h1
    cases h2; rfl
  | .bl _, _, _, _, h1, _ => by rw [keyN] at h1 <;> cases h1
  | .lst _, _, _, _, h1, _ => by rw [keyN] at h1 <;> cases h1
  | .ref _, _, _, _, h1, _ => by rw [keyN] at h1 <;> cases h1
  | .tup _, .bl _, _, _, _, h2 => by rw [keyN] at h2 <;> cases h2
  | .tup _, .lst _, _, _, _, h2 => by rw [keyN] at h2 <;> cases h2
  | .tup _, .ref _, _, _, _, h2 => by rw [keyN] at h2 <;> cases h2
theorem keyNs_eqv : ∀ (xs ys : List D) (ks ls : List NestedKey), keyNs xs = some ks → keyNs ys = some ls → eqvAll xs ys = NestedKey.beqAll ks ls
  | [], [], _, _, h1, h2 => by cases h1; cases h2; rfl
  | x :: xs, y :: ys, ks, ls, h1, h2 => by
    rw [keyNs] at h1 h2
    split at h1
    · rename_i k ks' a b
      split at h2
      · rename_i l ls' c d
        cases h1; cases h2
        rw [eqvAll, NestedKey.beqAll, keyN_eqv x y k l a c, keyNs_eqv xs ys ks' ls' b d]
      · cases h2
    · cases h1
  | [], y :: ys, _, ls, h1, h2 => by
    cases h1
    rw [keyNs] at h2
    split at h2
    · cases h2; rfl
    · cases h2
  | x :: xs, [], ks, _, h1, h2 => by
    cases h2
    rw [keyNs] at h1
    split at h1
    · cases h1; rfl
    · cases h1
end
theorem keyN_dec {d e : D} {k l : NestedKey} (h1 : keyN d = some k) (h2 : keyN e = some l) : eqv d e = decide (k = l) := by
  rw [keyN_eqv d e k l h1 h2, NestedKey.decide_eq]
mutual
theorem keyT_N : ∀ (n : Nat) (d : D), keyT n d = true → ∃ k, keyN d = some k ∧ k.depth ≤ n
  | n, .non, _ => ⟨.none, rfl, by simp [NestedKey.depth]⟩
  | n, .int i, _ => ⟨.num i, rfl, by simp [NestedKey.depth]⟩
  | n, .str x, _ => ⟨.text _, rfl, by simp [NestedKey.depth]⟩
  | n + 1, .tup xs, h => by
    obtain ⟨ks, a, b⟩ := keyTs_N n xs h
    exact ⟨.tup ks, by rw [keyN, a]; rfl, by simp [NestedKey.depth]; omega⟩
  | 0, .tup xs, h => by simp [keyT] at h
  | 0, .bl _, h => by simp [keyT] at h
  | 0, .lst _, h => by simp [keyT] at h
  | 0, .ref _, h => by simp [keyT] at h
  | _ + 1, .bl _, h => by simp [keyT] at h
  | _ + 1, .lst _, h => by simp [keyT] at h
  | _ + 1, .ref _, h => by simp [keyT] at h
theorem keyTs_N : ∀ (n : Nat) (xs : List D), xs.all (keyT n) = true → ∃ ks, keyNs xs = some ks ∧ NestedKey.depthAll ks ≤ n
  | n, [], _ => ⟨[], rfl, by simp [NestedKey.depthAll]⟩
  | n, x :: xs, h => by
    rw [List.all_cons, Bool.and_eq_true] at h
    obtain ⟨k, a, b⟩ := keyT_N n x h.1
    obtain ⟨ks, c, d⟩ := keyTs_N n xs h.2
    exact ⟨k :: ks, by rw [keyNs, a, c], by simp [NestedKey.depthAll]; omega⟩
end
theorem isKeyT_N {d : D} (h : isKeyT d = true) : ∃ k, keyN d = some k ∧ k.depth ≤ 8 := by
  cases d <;> first | (cases h; done) | exact keyT_N 8 _ h
theorem isKeyT_ref {K : Frag} {H : Hp} {d : D} {v : V} (h : isKeyT d = true) (r : Rep K H d v) : ∃ b, v = .ref b := by
  cases d <;> first | (cases h; done) | (cases r; exact ⟨_, rfl⟩)
section
variable {X : Cx} {pins : List (Addr × Obj)} {σ : St} {H : Hp} {s : Shared}
mutual
theorem nested_of (I : Inv X pins σ H s) : ∀ (d : D) (v : V) (u : Value) (k : NestedKey), Rep (XF X) H d v → RelV v u → keyN d = some k → NestedIs s.heap k u
  | .non, _, _, _, r, q, e => by cases r; cases q; rw [keyN] at e; cases e; exact .none
  | .int i, _, _, _, r, q, e => by cases r; obtain ⟨t, rfl⟩ := q; rw [keyN] at e; cases e; exact .int i t
  | .str x, _, _, _, r, q, e => by cases r; obtain ⟨t, rfl⟩ := q; rw [keyN] at e; cases e; exact .text _ t
  | .tup xs, _, _, _, r, q, e => by
    rw [keyN] at e
    obtain ⟨ks, a, rfl⟩ := Option.map_eq_some_iff.mp e
    cases r with
    | tup hs rs =>
      cases q
      obtain ⟨its, rv, ⟨o, ho, hc, n, hd⟩, _⟩ := I.tuple hs
      exact .tup ho hc hd (by rw [List.toList_toArray]; exact nested_all I xs _ its ks rs rv a)
  | .bl _, _, _, _, _, _, e => by rw [keyN] at e <;> cases e
  | .lst _, _, _, _, _, _, e => by rw [keyN] at e <;> cases e
  | .ref _, _, _, _, _, _, e => by rw [keyN] at e <;> cases e
theorem nested_all (I : Inv X pins σ H s) : ∀ (ds : List D) (vs : List V) (us : List Value) (ks : List NestedKey), Reps (XF X) H ds vs → Vals vs us → keyNs ds = some ks → NestedAll s.heap ks us
  | [], _, _, _, r, q, e => by cases r; cases q; cases e; exact .nil
  | d :: ds, _, _, ks, r, q, e => by
    rw [keyNs] at e
    split at e
    · rename_i k ks' a b
      cases e
      cases r with
      | cons r1 r2 =>
        cases q with
        | cons q1 q2 => exact .cons (nested_of I d _ _ k r1 q1 a) (nested_all I ds _ _ ks' r2 q2 b)
    · cases e
end
theorem nkey_is (I : Inv X pins σ H s) {d : D} {b : Addr} {k : NestedKey} (h : isKeyT d = true) (r : Rep (XF X) H d (.ref b)) (e : keyN d = some k) : (nestedKind X.prog X.w).is s.heap k b := by
  obtain ⟨k', e', hd⟩ := isKeyT_N h
  rw [e] at e'; cases e'
  exact ⟨nested_of I d (.ref b) (.ref b) k r rfl e, hd⟩
theorem NReps.is (I : Inv X pins σ H s) : ∀ {kvs : List (D × D)} {xs : List (NestedKey × Addr × Value)}, NReps (XF X) H kvs xs → ∀ x ∈ xs, (nestedKind X.prog X.w).is s.heap x.1 x.2.1
  | _, _, .nil, x, hx => absurd hx List.not_mem_nil
  | _, _, .cons a b c _ _ r, x, hx => by
    rcases List.mem_cons.mp hx with rfl | hx
    · exact nkey_is I a c b
    · exact NReps.is I r x hx
/-- the dict as the model holds it -/
theorem dictN (I : Inv X pins σ H s) {a : Addr} {kvs : List (D × D)} {xs : List (NestedKey × Addr × Value)} (e : H a = some (NO a (xs.map (entN X.w)))) (r : NReps (XF X) H kvs xs) (nd : (xs.map (·.1)).Nodup) : s.heap.DictOfH (nestedKind X.prog X.w) a xs := by
  obtain ⟨⟨o, ep, h1, h2, h3⟩, _⟩ := (show ObjOk X.prog X.w H s.heap a (NO a (xs.map (entN X.w))) from I.hok a _ e)
  exact ⟨o, _, ep, h1, h2, h3, by rw [List.toList_toArray]; rfl, r.is I, nd⟩
/-- such a dict as a letter -/
theorem NO.ok {P : Program} {w : World} {H' : Hp} {h : Heap} {a : Addr} {xs : List (NestedKey × Addr × Value)} (d : h.DictOfH (nestedKind P w) a xs) : ObjOk P w H' h a (NO a (xs.map (entN w))) := by
  obtain ⟨o, es, ep, h1, h2, h3, h4, _⟩ := d
  have e : (xs.map (entN w)).toArray = es := by
    have : es.toList = xs.map (entN w) := h4
    rw [← this, Array.toArray_toList]
  refine ⟨⟨o, ep, h1, h2, by rw [e]; exact h3⟩, ⟨o, h1⟩, fun g1 g2 ⟨o', ep', k1, k2, k3⟩ q => ⟨o', ep', q _ k1, k2, k3⟩⟩
theorem NReps.length {K : Frag} {H : Hp} : ∀ {kvs : List (D × D)} {xs : List (NestedKey × Addr × Value)}, NReps K H kvs xs → kvs.length = xs.length
  | _, _, .nil => rfl
  | _, _, .cons _ _ _ _ _ r => congrArg (· + 1) r.length
theorem NReps.any {K : Frag} {H : Hp} {d : D} {k : NestedKey} (e : keyN d = some k) : ∀ {kvs : List (D × D)} {xs : List (NestedKey × Addr × Value)}, NReps K H kvs xs → (kvs.any fun p => eqv p.1 d) = (atKey xs k).isSome
  | _, _, .nil => rfl
  | _, _, .cons (nk := nk) a b _ _ _ r => by
    rw [List.any_cons, keyN_dec b e, r.any e]
    unfold atKey
    rw [List.find?_cons]
    by_cases z : nk = k <;> simp [z]
theorem NReps.look {K : Frag} {H : Hp} {d : D} {k : NestedKey} (e : keyN d = some k) : ∀ {kvs : List (D × D)} {xs : List (NestedKey × Addr × Value)}, NReps K H kvs xs → (∃ z v b u, look kvs d = some z ∧ atKey xs k = some (b, u) ∧ RelV v u ∧ Rep K H z v) ∨ (look kvs d = none ∧ atKey xs k = none)
  | _, _, .nil => .inr ⟨rfl, rfl⟩
  | _, _, .cons (k := k') (d := d') (nk := nk) (b := b') (v := v') (u := u') a b _ r1 r2 r => by
    have ih := r.look e
    unfold Mp.look atKey at *
    rw [List.find?_cons, List.find?_cons, keyN_dec b e]
    by_cases z : nk = k
    · simp only [z, decide_true]
      exact .inl ⟨_, _, _, _, rfl, rfl, r2, r1⟩
    · simp only [z, decide_false]
      exact ih
theorem NReps.app {K : Frag} {H : Hp} : ∀ {kvs ls : List (D × D)} {xs ys : List (NestedKey × Addr × Value)}, NReps K H kvs xs → NReps K H ls ys → NReps K H (kvs ++ ls) (xs ++ ys)
  | _, _, _, _, .nil, s => s
  | _, _, _, _, .cons a b c d e r, s => .cons a b c d e (r.app s)
theorem NReps.put {K : Frag} {H : Hp} {d z : D} {k : NestedKey} {b : Addr} {v : V} {u : Value} (hk : isKeyT d = true) (e : keyN d = some k) (rk : Rep K H d (.ref b)) (rz : Rep K H z v) (ru : RelV v u) {kvs : List (D × D)} {xs : List (NestedKey × Addr × Value)} (s : NReps K H kvs xs) :
    NReps K H (stor kvs d z) (storedH xs k b u) := by
  unfold stor storedH
  rw [s.any e]
  cases q : (atKey xs k).isSome with
  | false => exact s.app (.cons hk e rk rz ru .nil)
  | true =>
    rw [if_pos rfl, if_pos rfl]
    clear q
    induction s with
    | nil => exact .nil
    | cons a1 a2 a3 a4 a5 _ ih =>
      rename_i k' d' nk' b' v' u' ks' xs' _
      rw [List.map_cons, List.map_cons, keyN_dec a2 e]
      unfold putAt
      by_cases y : nk' = k
      · simp only [y, decide_true, if_true]
        refine .cons a1 (y ▸ a2) a3 rz ru ih
      · simp only [y, decide_false, if_false, Bool.false_eq_true]
        exact .cons a1 a2 a3 a4 a5 ih
theorem stor_le (kvs : List (D × D)) (k v : D) : (stor kvs k v).length ≤ kvs.length + 1 := by
  unfold stor
  split
  · rw [List.length_map]; omega
  · rw [List.length_append]; simp
theorem room_n (hu : X.A.units + 64 < cLine) : (nestedKind X.prog X.w).room X.A.in1 := by
  show X.A.units + 1 + 8 < cLine; omega
/-- d[k] = v -/
theorem set_n (hu : X.A.units + 64 < cLine) {h : Hh} {a : Addr} {kvs : List (D × D)} {dk dz : D} {vk vz : V} {uk uz : Value} {E : Value → Shared → Prop} {Q : Unit → Shared → Prop} (I : Inv X pins σ H s) (hr : HRep (XF X) h H) (e : h a = some (.dcT kvs)) (hk : isKeyT dk = true) (rk : Rep (XF X) H dk vk) (qk : RelV vk uk) (rz : Rep (XF X) H dz vz) (qz : RelV vz uz) (hl : kvs.length < sz)
    (h : ∀ H' s', Inv X pins σ H' s' → HRep (XF X) (up h a (.dcT (stor kvs dk dz))) H' → Tst H H' → Q () s') : wpAny (model X.prog X.w) X.A (setItem (.ref a) uk uz) Q E s := by
  obtain ⟨xs, e1, r, hs, hz, nd⟩ := hr.dt e
  obtain ⟨b, rfl⟩ := isKeyT_ref hk rk
  cases qk
  obtain ⟨k, ek, _⟩ := isKeyT_N hk
  have lk := r.length
  refine wpAny_setItem_heap (knd := nestedKind X.prog X.w) (room_n hu) (nkey_is I hk rk ek) (dictN I e1 r nd) (fun h' hd hsb => ?_) (by rw [← lk, sz_eq]; exact hz)
  have wr : WrOk H a := .inr (.inr (.inl ⟨_, e1⟩))
  refine h (upd H a (NO a ((storedH xs k b uz).map (entN X.w)))) _ (I.write (e := a) (by rw [e1]; trivial) (.inl rfl) (fun c u hc hu => ?_) ?_ (NO.ok hd)) (hr.wr (c := .dcT (stor kvs dk dz)) wr ⟨_, upd_same, (r.put hk ek rk rz qz).mono (tst_wr wr), hs, ?_, ?_⟩) (tst_wr wr)
  · rw [hsb.2 c hc]; exact hu
  · obtain ⟨o, _, _, h1, _⟩ := hd; exact ⟨o, h1⟩
  · exact Nat.le_trans (stor_le ..) hl
  · obtain ⟨_, _, _, _, _, _, _, _, q⟩ := hd; exact q
theorem tyIs_n (I : Inv X pins σ H s) {h : Hh} {a : Addr} {kvs : List (D × D)} (hr : HRep (XF X) h H) (e : h a = some (.dcT kvs)) : s.TypeIs (.ref a) "dict" := by
  obtain ⟨xs, e1, r, hs, hz, nd⟩ := hr.dt e
  exact (dictN I e1 r nd).typeIs
end
/-- {} whose keys will be tuples -/
theorem pe_dnewN {X : Cx} {pos : Pos} : PE X (.Dict [] [] pos) (fun _ H Q => ∀ p, H p = none → (p == sysModules) = false → Q (.ref p) (upd H p (NO p []))) :=
  ⟨fun pins s σ H Q I h => wpAny_Dict_empty ⟨.ref s.heap.objs.size, _, I.laid (a := s.heap.objs.size) (o := NO s.heap.objs.size []) (t' := s.toks) (fun _ _ q => Heap.get?_push_of_some _ q) (Nat.le_refl _) (NO.ok (xs := []) (Heap.DictOfH.new s.heap)), rfl, h _ (I.hok.fresh (Nat.le_refl _)) (by
    rw [beq_eq_false_iff_ne]; exact Nat.ne_of_gt I.big)⟩⟩
/-- {k: v}, the key a tuple -/
def tDisN (X : Cx) (tk tv : TE) : TE := fun σ H Q => ∀ p, H p = none → (p == sysModules) = false → tk σ (upd H p (NO p [])) fun x H1 => tv σ H1 fun y H2 => H2 p = some (NO p []) ∧
  ∃ nk b, x = .ref b ∧ (∀ pins s σ, Inv X pins σ H2 s → (nestedKind X.prog X.w).is s.heap nk b) ∧ ∀ u, RelV y u → Q (.ref p) (upd H2 p (NO p ([(nk, b, u)].map (entN X.w))))
theorem pe_ddisN {X : Cx} (hu : X.A.units + 64 < cLine) {k v : Expr} {tk tv : TE} {pos : Pos} (hk : PE X k tk) (hv : PE X v tv) : PE X (.Dict [some k] [v] pos) (tDisN X tk tv) := by
  refine ⟨fun pins s σ H Q I q => ?_⟩
  have hn := I.hok.fresh (Nat.le_refl s.heap.objs.size)
  have I1 := I.laid (a := s.heap.objs.size) (o := NO s.heap.objs.size []) (t' := s.toks) (fun _ _ q => Heap.get?_push_of_some _ q) (Nat.le_refl _) (NO.ok (P := X.prog) (w := X.w) (xs := []) (Heap.DictOfH.new s.heap))
  have hsm : (s.heap.objs.size == sysModules) = false := by rw [beq_eq_false_iff_ne]; exact Nat.ne_of_gt I.big
  have hsh := zip_pairTrees [some k] [v] X.env pos rfl rfl
  rw [arm_eval_Dict, hsh, dictDisplay_pairs (pairTrees [some k] [v] X.env pos) (by intro z; have := pairTrees_length [some k] [v] X.env pos rfl rfl; rw [z] at this; cases this) (by rw [pairTrees_length [some k] [v] X.env pos rfl rfl]; show 1 < 17; omega)]
  refine wpAny_bind (wpAny_standAt (wpAny_bind (wpAny_subDictH (knd := nestedKind X.prog X.w) (by show X.A.units + 8 < cLine; omega) (by rw [pairTrees_length [some k] [v] X.env pos rfl rfl]; show 1 ≤ 15; omega) ?_)))
  refine pairTrees_cons_walk (thn (hk.run pins _ σ _ _ I1 (q _ hn hsm)) fun u s1 ⟨x, H1, I1, rx, q1⟩ => thn (hv.run pins s1 σ H1 _ I1 q1) fun w2 s2 ⟨y, H2, I2, ry, e2, nk, b, ex, hb, q2⟩ => pairTrees_nil_walk ?_)
  subst ex
  cases rx
  have D0 := dictN I2 (xs := []) e2 .nil .nil
  refine ⟨[(nk, b, w2)], ⟨rfl, rfl, hb _ _ _ I2, True.intro⟩, D0, fun h' tk D1 sb => wpAny_pure ⟨.ref s.heap.objs.size, _, I2.write (e := s.heap.objs.size) (t' := tk) (by rw [e2]; trivial) (.inl rfl) (fun c u hc hu => ?_) ?_ (NO.ok (xs := [(nk, b, w2)]) D1), rfl, q2 w2 ry⟩⟩
  · rw [sb.2 c hc]; exact hu
  · obtain ⟨o, _, _, h1, _⟩ := D1; exact ⟨o, h1⟩
end Mp
/-! Comparisons. -/
namespace Mp
open PySem PySem.Spec L2
mutual
def toP : D → PyData
  | .non => .none
  | .bl b => .bool b
  | .int i => .int i
  | .str x => .str (S2 x)
  | .tup xs => .tuple (toPs xs)
  | .lst xs => .list (toPs xs)
  | .ref _ => .none
def toPs : List D → List PyData
  | [] => []
  | x :: xs => toP x :: toPs xs
end
theorem toPs_map : ∀ xs : List D, toPs xs = xs.map toP
  | [] => rfl
  | x :: xs => by rw [toPs, toPs_map xs]; rfl
theorem mapM_some {f : D → Option D} : ∀ {xs ys : List D}, xs.mapM f = some ys → (xs = [] ∧ ys = []) ∨ ∃ x xs' y ys', xs = x :: xs' ∧ ys = y :: ys' ∧ f x = some y ∧ xs'.mapM f = some ys'
  | [], ys, h => by
    rw [List.mapM_nil] at h
    cases h
    exact .inl ⟨rfl, rfl⟩
  | x :: xs, ys, h => by
    rw [List.mapM_cons] at h
    cases e : f x with
    | none => rw [e] at h; cases h
    | some y =>
      cases e2 : xs.mapM f with
      | none => rw [e, e2] at h; cases h
      | some zs =>
        rw [e, e2] at h
        cases h
        exact .inr ⟨x, xs, y, zs, rfl, rfl, e, e2⟩
theorem dp_all {K : Frag} {H : Hp} {f : D → Option D} (hf : ∀ d d' v, f d = some d' → Rep K H d v → Dp K H v (toP d')) : ∀ {xs ys : List D} {vs : List V}, xs.mapM f = some ys → Reps K H xs vs → DpAll K H vs (toPs ys)
  | [], ys, vs, h, r => by
    rcases mapM_some h with ⟨_, rfl⟩ | ⟨x, xs', y, ys', e, _⟩
    · cases r; exact .nil
    · cases e
  | x :: xs, ys, vs, h, r => by
    rcases mapM_some h with ⟨e, _⟩ | ⟨x', xs', y, ys', e, rfl, h1, h2⟩
    · cases e
    · cases e
      cases r with
      | cons r1 r2 => exact .cons (hf _ _ _ h1 r1) (dp_all hf h2 r2)
theorem den_dp {K : Frag} {H : Hp} {h : Hh} (hr : HRep K h H) : ∀ (n : Nat) (d d' : D) (v : V), den h n d = some d' → Rep K H d v → Dp K H v (toP d')
  | n, .non, d', v, e, r => by cases n <;> (cases e; cases r; exact .non)
  | n, .bl b, d', v, e, r => by cases n <;> (cases e; cases r; exact .bl b)
  | n, .int i, d', v, e, r => by cases n <;> (cases e; cases r; exact .int i)
  | n, .str x, d', v, e, r => by cases n <;> (cases e; cases r; exact .str _)
  | 0, .tup xs, d', v, e, r => by cases e
  | 0, .lst xs, d', v, e, r => by cases e
  | 0, .ref a, d', v, e, r => by cases e
  | n + 1, .lst xs, d', v, e, r => by cases e
  | n + 1, .tup xs, d', v, e, r => by
    rw [den] at e
    cases q : xs.mapM (den h n) with
    | none => rw [q] at e; cases e
    | some ys =>
      rw [q] at e
      cases e
      cases r with
      | tup s rs => exact .tup s (dp_all (den_dp hr n) q rs)
  | n + 1, .ref a, d', v, e, r => by
    rw [den] at e
    cases r
    cases q : h a with
    | none => rw [q] at e; cases e
    | some c =>
      rw [q] at e
      cases c with
      | lst xs =>
        cases q2 : xs.mapM (den h n) with
        | none => simp only [q2] at e; cases e
        | some ys =>
          simp only [q2] at e
          cases e
          obtain ⟨vs, e1, rs⟩ := hr.l q
          exact .lst (SqL.of e1) (dp_all (den_dp hr n) q2 rs)
      | rol xs =>
        cases q2 : xs.mapM (den h n) with
        | none => simp only [q2] at e; cases e
        | some ys =>
          simp only [q2] at e
          cases e
          obtain ⟨vs, e1, rs⟩ := hr.rl q
          exact .lst e1 (dp_all (den_dp hr n) q2 rs)
      | dct _ => cases e
      | dcT _ => cases e
      | obj _ _ => cases e
theorem beq_S2 (x y : List Nat) : (S2 x == S2 y) = (x == y) := by
  by_cases e : x = y
  · subst e; simp
  · have e' : S2 x ≠ S2 y := fun q => e (S2_inj q)
    rw [beq_eq_false_iff_ne.mpr e, beq_eq_false_iff_ne.mpr e']
theorem eqv_all {f : D → Bool} (hf : ∀ x y, f x = true → f y = true → eqv x y = PyData.eqv (toP x) (toP y)) : ∀ xs ys : List D, xs.all f = true → ys.all f = true → eqvAll xs ys = PyData.eqvAll (toPs xs) (toPs ys)
  | [], [], _, _ => by simp [eqvAll, toPs, PyData.eqvAll]
  | [], y :: ys, _, _ => by simp [eqvAll, toPs, PyData.eqvAll]
  | x :: xs, [], _, _ => by simp [eqvAll, toPs, PyData.eqvAll]
  | x :: xs, y :: ys, h1, h2 => by
    rw [List.all_cons, Bool.and_eq_true] at h1 h2
    rw [eqvAll, toPs, toPs, PyData.eqvAll, hf x y h1.1 h2.1, eqv_all hf xs ys h1.2 h2.2]
theorem fits_ref (n : Nat) (a : Nat) : fits n (.ref a) = false := by cases n <;> rfl
theorem eqv_toP : ∀ (n : Nat) (x y : D), fits n x = true → fits n y = true → eqv x y = PyData.eqv (toP x) (toP y) := by
  intro n
  induction n with
  | zero =>
    intro x y hx hy
    cases x <;> cases y <;> first | (simp [fits] at hx; done) | (simp [fits] at hy; done) | (simp [eqv, toP, PyData.eqv, beq_S2])
  | succ n ih =>
    intro x y hx hy
    cases x <;> cases y <;> first
      | (simp [fits] at hx; done)
      | (simp [fits] at hy; done)
      | (simp [eqv, toP, PyData.eqv, beq_S2]; done)
      | (rw [fits] at hx hy; simp only [eqv, toP, PyData.eqv]; exact eqv_all ih _ _ hx hy)
theorem lay_all {f : D → Bool} (hf : ∀ x, f x = true → (toP x).canLay0 = true) : ∀ xs : List D, xs.all f = true → PyData.canLayAll0 (toPs xs) = true
  | [], _ => by simp [toPs, PyData.canLayAll0]
  | x :: xs, h => by
    rw [List.all_cons, Bool.and_eq_true] at h
    rw [toPs, PyData.canLayAll0, hf x h.1, lay_all hf xs h.2]; rfl
theorem strOk_S2 (x : List Nat) : PyData.strOk (S2 x) = okStr x := by
  unfold PyData.strOk okStr S2
  simp
theorem lay_of : ∀ (n : Nat) (x : D), fits n x = true → (toP x).canLay0 = true
  | n, .non, _ => by simp [toP, PyData.canLay0]
  | n, .bl _, _ => by simp [toP, PyData.canLay0]
  | n, .int _, _ => by simp [toP, PyData.canLay0]
  | n, .str x, h => by
    have h' : okStr x = true := by cases n <;> exact h
    rw [toP, PyData.canLay0, strOk_S2, h']
  | 0, .tup _, h => by cases h
  | 0, .lst _, h => by cases h
  | n, .ref a, h => by rw [fits_ref] at h; cases h
  | n + 1, .tup xs, h => by
    rw [fits] at h
    rw [toP, PyData.canLay0]
    exact lay_all (lay_of n) xs h
  | n + 1, .lst xs, h => by
    rw [fits] at h
    rw [toP, PyData.canLay0]
    exact lay_all (lay_of n) xs h
theorem dep_all {f : D → Bool} {n : Nat} (hf : ∀ x, f x = true → (toP x).depth ≤ n) : ∀ xs : List D, xs.all f = true → PyData.depthAll (toPs xs) ≤ n
  | [], _ => by simp [toPs, PyData.depthAll]
  | x :: xs, h => by
    rw [List.all_cons, Bool.and_eq_true] at h
    rw [toPs, PyData.depthAll]
    have h1 := hf x h.1
    have h2 := dep_all hf xs h.2
    omega
theorem dep_of : ∀ (n : Nat) (x : D), fits n x = true → (toP x).depth ≤ n
  | n, .non, _ => by simp [toP, PyData.depth]
  | n, .bl _, _ => by simp [toP, PyData.depth]
  | n, .int _, _ => by simp [toP, PyData.depth]
  | n, .str x, _ => by simp [toP, PyData.depth]
  | 0, .tup _, h => by cases h
  | 0, .lst _, h => by cases h
  | n, .ref a, h => by rw [fits_ref] at h; cases h
  | n + 1, .tup xs, h => by
    rw [fits] at h
    rw [toP, PyData.depth]
    have := dep_all (dep_of n) xs h
    omega
  | n + 1, .lst xs, h => by
    rw [fits] at h
    rw [toP, PyData.depth]
    have := dep_all (dep_of n) xs h
    omega
theorem shaped_of {x : D} (h : fits 20 x = true) : SeqAt.shaped (toP x) = true := by
  unfold SeqAt.shaped
  rw [lay_of 20 x h, Bool.true_and]
  have := dep_of 20 x h
  exact decide_eq_true (by omega)

/-! ### order -/
mutual
theorem alk_toP : ∀ x y : D, alk x y = true → PySem.W.alike (toP x) (toP y) = true
  | .non, y, h => by cases y <;> simp [alk] at h; simp [toP, PySem.W.alike]
  | .bl _, y, h => by cases y <;> simp [alk] at h; simp [toP, PySem.W.alike]
  | .int _, y, h => by cases y <;> simp [alk] at h; simp [toP, PySem.W.alike]
  | .str _, y, h => by cases y <;> simp [alk] at h; simp [toP, PySem.W.alike]
  | .tup xs, y, h => by
    cases y <;> simp [alk] at h
    rename_i ys
    simp only [toP, PySem.W.alike]
    exact alkAll_toP xs ys h
  | .lst xs, y, h => by
    cases y <;> simp [alk] at h
    rename_i ys
    simp only [toP, PySem.W.alike]
    exact alkAll_toP xs ys h
  | .ref _, y, h => by cases y <;> simp [alk] at h
theorem alkAll_toP : ∀ xs ys : List D, alkAll xs ys = true → PySem.W.alikeAll (toPs xs) (toPs ys) = true
  | [], _, _ => by simp [toPs, PySem.W.alikeAll]
  | x :: xs, [], _ => by simp [toPs, PySem.W.alikeAll]
  | x :: xs, y :: ys, h => by
    simp only [alkAll, Bool.and_eq_true] at h
    simp only [toPs, PySem.W.alikeAll, Bool.and_eq_true]
    exact ⟨alk_toP x y h.1, alkAll_toP xs ys h.2⟩
end
theorem lt_str (x y : List Nat) : decide ((S2 x).cps.toList < (S2 y).cps.toList) = decide (x < y) := by rw [S2_cps, S2_cps]
theorem lt_all {f : D → Bool} (hf : ∀ x y, f x = true → f y = true → alk x y = true → ltD x y = PySem.W.dataLt (toP x) (toP y))
    (he : ∀ x y, f x = true → f y = true → eqv x y = PyData.eqv (toP x) (toP y)) : ∀ xs ys : List D, xs.all f = true → ys.all f = true → alkAll xs ys = true →
    ltAll xs ys = PyProof.Rows.lexLt PyProof.Rows.itemOrd (PySem.W.keyToksAll (toPs xs)) (PySem.W.keyToksAll (toPs ys))
  | [], [], _, _, _ => by
    simp only [ltAll, toPs]
    rfl
  | [], y :: ys, _, _, _ => by
    simp only [ltAll, toPs, PySem.W.keyToksAll]
    rfl
  | x :: xs, [], _, _, _ => by
    simp only [ltAll, toPs, PySem.W.keyToksAll]
    rfl
  | x :: xs, y :: ys, h1, h2, h => by
    rw [List.all_cons, Bool.and_eq_true] at h1 h2
    simp only [alkAll, Bool.and_eq_true] at h
    simp only [ltAll, toPs]
    rw [he x y h1.1 h2.1]
    cases e : PyData.eqv (toP x) (toP y) with
    | true =>
      rw [PySem.W.dataLt_all_yes (alk_toP x y h.1) e, if_pos rfl]
      exact lt_all hf he xs ys h1.2 h2.2 h.2
    | false =>
      rw [PySem.W.dataLt_all_no (alk_toP x y h.1) e, if_neg (by simp)]
      exact hf x y h1.1 h2.1 h.1
theorem ltD_toP : ∀ (n : Nat) (x y : D), fits n x = true → fits n y = true → alk x y = true → ltD x y = PySem.W.dataLt (toP x) (toP y) := by
  intro n
  induction n with
  | zero =>
    intro x y hx hy h
    cases x <;> cases y <;> first
      | (simp [alk] at h; done)
      | (simp [fits] at hx; done)
      | (simp only [ltD, toP, PySem.W.dataLt_int]; done)
      | (simp only [ltD, toP, PySem.W.dataLt_str, lt_str]; done)
      | (rename_i a b; cases a <;> cases b <;> rfl)
      | rfl
  | succ n ih =>
    intro x y hx hy h
    cases x <;> cases y <;> first
      | (simp [alk] at h; done)
      | (simp [fits] at hx; done)
      | (simp only [ltD, toP, PySem.W.dataLt_int]; done)
      | (simp only [ltD, toP, PySem.W.dataLt_str, lt_str]; done)
      | (rename_i a b; cases a <;> cases b <;> rfl)
      | (rw [fits] at hx hy; simp only [alk] at h; simp only [ltD, toP, PySem.W.dataLt_tuple]; exact lt_all ih (eqv_toP n) _ _ hx hy h)
      | (rw [fits] at hx hy; simp only [alk] at h; simp only [ltD, toP, PySem.W.dataLt_list]; exact lt_all ih (eqv_toP n) _ _ hx hy h)
      | rfl
/-- frozen data are their own freezing -/
theorem mapM_id {f : D → Option D} : ∀ {xs : List D}, (∀ x ∈ xs, f x = some x) → xs.mapM f = some xs
  | [], _ => by rw [List.mapM_nil]; rfl
  | x :: xs, h => by
    rw [List.mapM_cons, h x List.mem_cons_self, mapM_id fun y hy => h y (List.mem_cons_of_mem _ hy)]
    rfl
theorem den_flat {h : Hh} : ∀ (n : Nat) (x : D), flat n x = true → den h n x = some x
  | n, .non, _ => by cases n <;> rfl
  | n, .bl _, _ => by cases n <;> rfl
  | n, .int _, _ => by cases n <;> rfl
  | n, .str x, _ => by cases n <;> rfl
  | 0, .tup _, h => by cases h
  | 0, .lst _, h => by cases h
  | n + 1, .lst _, h => by cases h
  | 0, .ref a, h => by cases h
  | n + 1, .ref a, h => by cases h
  | n + 1, .tup xs, e => by
    rw [flat] at e
    rw [den, mapM_id fun x hx => den_flat n x (List.all_eq_true.mp e x hx)]
    rfl
theorem fits_flat : ∀ (n : Nat) (x : D), flat n x = true → fits n x = true
  | n, .non, _ => by cases n <;> rfl
  | n, .bl _, _ => by cases n <;> rfl
  | n, .int _, _ => by cases n <;> rfl
  | n, .str x, h => by cases n <;> exact h
  | 0, .tup _, h => by cases h
  | 0, .lst _, h => by cases h
  | n + 1, .lst _, h => by cases h
  | 0, .ref a, h => by cases h
  | n + 1, .ref a, h => by cases h
  | n + 1, .tup xs, e => by
    rw [flat] at e
    rw [fits]
    exact List.all_eq_true.mpr fun x hx => fits_flat n x (List.all_eq_true.mp e x hx)

/-! ### the operators -/
theorem keyV_eqv : ∀ {a b : D} {k l : Key}, keyV a = some k → keyV b = some l → eqv a b = decide (k = l)
  | .int i, .int j, _, _, h1, h2 => by
    cases h1; cases h2
    rw [key_ll]; rfl
  | .str x, .str y, _, _, h1, h2 => by
    cases h1; cases h2
    rw [key_rr]
    show (x == y) = _
    rw [← beq_S2, Bool.beq_eq_decide_eq]
  | .int i, .str y, _, _, h1, h2 => by
    cases h1; cases h2
    rw [key_lr]; rfl
  | .str x, .int j, _, _, h1, h2 => by
    cases h1; cases h2
    rw [key_rl]; rfl
  | .non, _, _, _, h1, _ => by cases h1
  | .bl _, _, _, _, h1, _ => by cases h1
  | .tup _, _, _, _, h1, _ => by cases h1
  | .lst _, _, _, _, h1, _ => by cases h1
  | .ref _, _, _, _, h1, _ => by cases h1
  | _, .non, _, _, _, h2 => by cases h2
  | _, .bl _, _, _, _, h2 => by cases h2
  | _, .tup _, _, _, _, h2 => by cases h2
  | _, .lst _, _, _, _, h2 => by cases h2
  | _, .ref _, _, _, _, h2 => by cases h2
theorem isKey_keyV {d : D} (h : isKey d = true) : ∃ k, keyV d = some k := by
  cases d <;> first | (cases h; done) | exact ⟨_, rfl⟩
theorem keyV_rep {K : Frag} {H : Hp} {d : D} {k : Key} {v : V} (e : keyV d = some k) (r : Rep K H d v) : v = kV k := by
  cases d <;> first | (cases e; done) | skip
  · cases r; cases e; rfl
  · cases r; cases e; rfl
theorem KReps.any {K : Frag} {H : Hp} {d : D} {k : Key} (e : keyV d = some k) : ∀ {kvs : List (D × D)} {ks : List (Key × V)}, KReps K H kvs ks → (kvs.any fun p => eqv p.1 d) = (valV ks k).isSome
  | _, _, .nil => rfl
  | _, _, .cons (a := a) (k := l) e1 r s => by
    rw [List.any_cons, KReps.any e s, keyV_eqv e1 e]
    by_cases q : l = k
    · rw [valV_pos (show (l, _).1 = k from q)]; simp [q]
    · rw [valV_neg (show ¬ (l, _).1 = k from q)]; simp [q]
theorem KReps.look {K : Frag} {H : Hp} {d : D} {k : Key} (e : keyV d = some k) : ∀ {kvs : List (D × D)} {ks : List (Key × V)} {z : D}, KReps K H kvs ks → look kvs d = some z → ∃ v, valV ks k = some v ∧ Rep K H z v
  | _, _, _, .nil, h => by cases h
  | _, _, z, .cons (a := a) (k := l) (v := v) e1 r s, h => by
    unfold Mp.look at h
    rw [List.find?_cons, keyV_eqv e1 e] at h
    by_cases q : l = k
    · rw [decide_eq_true q] at h
      cases h
      exact ⟨v, valV_pos (show (l, v).1 = k from q), r⟩
    · rw [decide_eq_false q] at h
      obtain ⟨v', h1, h2⟩ := KReps.look e s h
      exact ⟨v', (valV_neg (show ¬ (l, v).1 = k from q)).trans h1, h2⟩
theorem KReps.length {K : Frag} {H : Hp} : ∀ {kvs : List (D × D)} {ks : List (Key × V)}, KReps K H kvs ks → kvs.length = ks.length
  | _, _, .nil => rfl
  | _, _, .cons _ _ s => congrArg (· + 1) (KReps.length s)
theorem KReps.app {K : Frag} {H : Hp} : ∀ {kvs kvs' : List (D × D)} {ks ks' : List (Key × V)}, KReps K H kvs ks → KReps K H kvs' ks' → KReps K H (kvs ++ kvs') (ks ++ ks')
  | _, _, _, _, .nil, s => s
  | _, _, _, _, .cons e r t, s => .cons e r (KReps.app t s)
theorem KReps.map_put {K : Frag} {H : Hp} {d z : D} {k : Key} {v : V} (e : keyV d = some k) (r : Rep K H z v) : ∀ {kvs : List (D × D)} {ks : List (Key × V)}, KReps K H kvs ks →
    KReps K H (kvs.map fun p => if eqv p.1 d then (p.1, z) else p) (ks.map fun kv => if kv.1 = k then (kv.1, v) else kv)
  | _, _, .nil => .nil
  | _, _, .cons (a := a) (k := l) (v := v') e1 r1 s => by
    rw [List.map_cons, List.map_cons, keyV_eqv e1 e]
    by_cases q : l = k
    · rw [decide_eq_true q, if_pos rfl, if_pos (show (l, v').1 = k from q)]
      exact .cons e1 r (KReps.map_put e r s)
    · rw [decide_eq_false q, if_neg (by simp), if_neg (show ¬ (l, v').1 = k from q)]
      exact .cons e1 r1 (KReps.map_put e r s)
theorem KReps.put {K : Frag} {H : Hp} {d z : D} {k : Key} {v : V} (e : keyV d = some k) (r : Rep K H z v) {kvs : List (D × D)} {ks : List (Key × V)} (s : KReps K H kvs ks) : KReps K H (stor kvs d z) (putK ks k v) := by
  unfold stor putK
  rw [s.any e, valV_any]
  cases (valV ks k).isSome with
  | true => rw [if_pos rfl, if_pos rfl]; exact s.map_put e r
  | false => rw [if_neg (by simp), if_neg (by simp)]; exact s.app (.cons e r .nil)

def COp.py : COp → CmpOp
  | .eq => .Eq | .ne => .NotEq | .lt => .Lt | .le => .LtE | .gt => .Gt | .ge => .GtE | .isin => .In | .notin => .NotIn | .is => .Is | .isnot => .IsNot
def rC (K : Frag) (op : COp) : R2 := fun x y H Q => ∃ dx dy h Qd, Rep K H dx x ∧ Rep K H dy y ∧ HRep K h H ∧ opC op dx dy h Qd ∧ NCl K Qd Q H
section
variable {X : Cx}
theorem oc_eq (hu : X.A.units + 64 < cLine) : OpR X (compareOp .Eq) (rC (XF X) .eq) := by
  intro pins s σ H x y v u Q I rx ry ⟨dx, dy, h, Qd, r1, r2, hr, ⟨x', y', e1, e2, f1, f2, w⟩, n⟩
  refine op_eqD hu pins s σ H _ _ v u Q I rx ry ⟨_, _, den_dp hr _ _ _ _ e1 r1, den_dp hr _ _ _ _ e2 r2, shaped_of f1, shaped_of f2, ?_⟩
  rw [← eqv_toP 20 x' y' f1 f2]
  exact n _ _ _ _ w (.bl _) hr (Tst.refl _)
theorem oc_ne (hu : X.A.units + 64 < cLine) : OpR X (compareOp .NotEq) (rC (XF X) .ne) := by
  intro pins s σ H x y v u Q I rx ry ⟨dx, dy, h, Qd, r1, r2, hr, ⟨x', y', e1, e2, f1, f2, w⟩, n⟩
  refine op_neD hu pins s σ H _ _ v u Q I rx ry ⟨_, _, den_dp hr _ _ _ _ e1 r1, den_dp hr _ _ _ _ e2 r2, shaped_of f1, shaped_of f2, ?_⟩
  rw [← eqv_toP 20 x' y' f1 f2]
  exact n _ _ _ _ w (.bl _) hr (Tst.refl _)
theorem oc_lt (hu : X.A.units + 64 < cLine) : OpR X (compareOp .Lt) (rC (XF X) .lt) := by
  intro pins s σ H x y v u Q I rx ry ⟨dx, dy, h, Qd, r1, r2, hr, w, n⟩
  by_cases hi : ∃ i j, dx = .int i ∧ dy = .int j
  · obtain ⟨i, j, rfl, rfl⟩ := hi
    have w' : Qd (.bl (decide (i < j))) h := w
    cases r1; cases r2
    exact op_lt pins s σ H _ _ v u Q I rx ry ⟨_, _, rfl, rfl, n _ _ _ _ w' (.bl _) hr (Tst.refl _)⟩
  · have w' : flat 20 dx = true ∧ flat 20 dy = true ∧ alk dx dy = true ∧ dx ≠ .non ∧ Qd (.bl (ltD dx dy)) h := by
      unfold opC at w
      split at w
      all_goals first | exact absurd ⟨_, _, rfl, rfl⟩ hi | exact w | (rename_i z; cases z; done) | (exact False.elim w)
    obtain ⟨f1, f2, ha, hn, w'⟩ := w'
    have d1 := den_dp hr 20 dx dx x (den_flat 20 dx f1) r1
    have d2 := den_dp hr 20 dy dy y (den_flat 20 dy f2) r2
    obtain ⟨as, a1⟩ := Dp.reads I _ _ v d1 rx
    obtain ⟨bs, a2⟩ := Dp.reads I _ _ u d2 ry
    have g1 := fits_flat 20 dx f1
    have g2 := fits_flat 20 dy f2
    have hd := dep_of 20 dx g1
    refine PySem.W.rcLt_alike (toP dx) (toP dy) X.A s v u as bs a1 a2 (alk_toP dx dy ha) (fun e => ?_) (by omega) X.prog X.w X.xe _ ?_
    · cases dx <;> first | exact hn rfl | (cases e; done) | (simp [flat] at f1; done)
    · rw [← ltD_toP 20 dx dy g1 g2 ha]
      exact ⟨.bl _, H, I, rfl, n _ _ _ _ w' (.bl _) hr (Tst.refl _)⟩
theorem oc_le : OpR X (compareOp .LtE) (rC (XF X) .le) := by
  intro pins s σ H x y v u Q I rx ry ⟨dx, dy, h, Qd, r1, r2, hr, w, n⟩
  unfold opC at w
  split at w
  all_goals first | (exact False.elim w) | contradiction | skip
  cases r1; cases r2
  exact op_le pins s σ H _ _ v u Q I rx ry ⟨_, _, rfl, rfl, n _ _ _ _ w (.bl _) hr (Tst.refl _)⟩
theorem oc_gt : OpR X (compareOp .Gt) (rC (XF X) .gt) := by
  intro pins s σ H x y v u Q I rx ry ⟨dx, dy, h, Qd, r1, r2, hr, w, n⟩
  unfold opC at w
  split at w
  all_goals first | (exact False.elim w) | contradiction | skip
  cases r1; cases r2
  exact op_gt pins s σ H _ _ v u Q I rx ry ⟨_, _, rfl, rfl, n _ _ _ _ w (.bl _) hr (Tst.refl _)⟩
theorem oc_ge : OpR X (compareOp .GtE) (rC (XF X) .ge) := by
  intro pins s σ H x y v u Q I rx ry ⟨dx, dy, h, Qd, r1, r2, hr, w, n⟩
  unfold opC at w
  split at w
  all_goals first | (exact False.elim w) | contradiction | skip
  cases r1; cases r2
  exact op_ge pins s σ H _ _ v u Q I rx ry ⟨_, _, rfl, rfl, n _ _ _ _ w (.bl _) hr (Tst.refl _)⟩
theorem rep_non {K : Frag} {H : Hp} {d : D} {v : V} (r : Rep K H d v) : decide (v = .non) = isNonD d := by
  cases r <;> simp [isNonD]
theorem oc_is : OpR X (compareOp .Is) (rC (XF X) .is) := by
  intro pins s σ H x y v u Q I rx ry ⟨dx, dy, h, Qd, r1, r2, hr, w, n⟩
  unfold opC at w
  split at w
  all_goals first | (exact False.elim w) | contradiction | skip
  · cases r2
    refine op_isN pins s σ H _ _ v u Q I rx ry ⟨rfl, ?_⟩
    rw [rep_non r1]
    exact n _ _ _ _ w (.bl _) hr (Tst.refl _)
  · cases r1; cases r2
    exact op_isBl pins s σ H _ _ v u Q I rx ry ⟨_, _, rfl, rfl, n _ _ _ _ w (.bl _) hr (Tst.refl _)⟩
theorem oc_isnot : OpR X (compareOp .IsNot) (rC (XF X) .isnot) := by
  intro pins s σ H x y v u Q I rx ry ⟨dx, dy, h, Qd, r1, r2, hr, w, n⟩
  unfold opC at w
  split at w
  all_goals first | (exact False.elim w) | contradiction | skip
  · cases r2
    refine op_notN pins s σ H _ _ v u Q I rx ry ⟨rfl, ?_⟩
    rw [rep_non r1]
    exact n _ _ _ _ w (.bl _) hr (Tst.refl _)
  · cases r1; cases r2
    exact op_notBl pins s σ H _ _ v u Q I rx ry ⟨_, _, rfl, rfl, n _ _ _ _ w (.bl _) hr (Tst.refl _)⟩
theorem any_toPs {x : D} (hx : fits 20 x = true) : ∀ {xs : List D}, xs.all (fits 20) = true → (xs.any fun z => eqv z x) = ((toPs xs).any fun z => PyData.eqv z (toP x))
  | [], _ => rfl
  | y :: ys, h => by
    rw [List.all_cons, Bool.and_eq_true] at h
    rw [List.any_cons, toPs, List.any_cons, eqv_toP 20 y x h.1 hx, any_toPs hx h.2]
theorem shaped_lst {xs : List D} (h : xs.all (fits 20) = true) : SeqAt.shaped (.list (toPs xs)) = true := by
  unfold SeqAt.shaped
  rw [PyData.canLay0, lay_all (lay_of 20) xs h, Bool.true_and, PyData.depth]
  have := dep_all (dep_of 20) xs h
  exact decide_eq_true (by omega)
theorem oc_mem (hu : X.A.units + 65 < cLine) {pins : List (Addr × Obj)} {s : Shared} {σ : St} {H : Hp} {x y : V} {v u : Value} {dx dy : D} {h : Hh} {R : Bool → Prop} (I : Inv X pins σ H s) (rx : RelV x v) (ry : RelV y u) (r1 : Rep (XF X) H dx x) (r2 : Rep (XF X) H dy y) (hr : HRep (XF X) h H)
    (w : memD h dx dy R) : (∃ d ds b, Dp (XF X) H x d ∧ Dp (XF X) H y (.list ds) ∧ SeqAt.shaped d = true ∧ SeqAt.shaped (.list ds) = true ∧ (ds.any fun z => PyData.eqv z d) = b ∧ R b) ∨
      (∃ a o b, y = .ref a ∧ DGet H a x o ∧ o.isSome = b ∧ R b) ∨ (∃ a kvs, y = .ref a ∧ h a = some (.dcT kvs) ∧ isKeyT dx = true ∧ R (kvs.any fun p => eqv p.1 dx)) := by
  unfold memD at w
  split at w
  · rename_i a
    cases r2
    split at w
    · rename_i kvs e
      obtain ⟨ks, e1, q⟩ := hr.d e
      obtain ⟨k, ek⟩ := isKey_keyV w.1
      refine .inr (.inl ⟨a, valV ks k, _, rfl, ?_, rfl, ?_⟩)
      · rw [keyV_rep ek r1]; exact DGet.k e1
      · rw [← q.any ek]; exact w.2
    · rename_i kvs e
      exact .inr (.inr ⟨a, kvs, rfl, e, w.1, w.2⟩)
    · rename_i xs e
      obtain ⟨vs, e1, q⟩ := hr.l e
      obtain ⟨x', xs', g1, g2, f1, f2, k⟩ := w
      refine .inl ⟨toP x', toPs xs', _, den_dp hr _ _ _ _ g1 r1, .lst (SqL.of e1) (dp_all (den_dp hr 20) g2 q), shaped_of f1, shaped_lst f2, rfl, ?_⟩
      rw [← any_toPs f1 f2]; exact k
    · exact w.elim
  · exact w.elim
theorem oc_in (hu : X.A.units + 65 < cLine) : OpR X (compareOp .In) (rC (XF X) .isin) := by
  intro pins s σ H x y v u Q I rx ry ⟨dx, dy, h, Qd, r1, r2, hr, w, n⟩
  have w' : memD h dx dy (fun b => Qd (.bl b) h) := w
  rcases oc_mem hu I rx ry r1 r2 hr w' with ⟨d, ds, b, h1, h2, h3, h4, rfl, k⟩ | ⟨a, o, b, rfl, g, rfl, k⟩ | ⟨a, kvs, rfl, ed, hk, k⟩
  · exact op_inD hu pins s σ H _ _ v u Q I rx ry ⟨_, _, h1, h2, h3, h4, n _ _ _ _ k (.bl _) hr (Tst.refl _)⟩
  · cases ry
    exact d_in (by omega) I g rx fun s3 I3 => ⟨.bl o.isSome, H, I3, rfl, n _ _ _ _ k (.bl _) hr (Tst.refl _)⟩
  · cases ry
    obtain ⟨xs, e1, r, hs, hz, nd⟩ := hr.dt ed
    obtain ⟨b, rfl⟩ := isKeyT_ref hk r1
    cases rx
    obtain ⟨nk, ek, _⟩ := isKeyT_N hk
    rw [r.any ek] at k
    exact in_keyed (knd := nestedKind X.prog X.w) (room_n (by omega)) (nkey_is I hk r1 ek) hs ⟨xs, dictN I e1 r nd, rfl⟩ (by rw [valueAt_pairsH, Option.isSome_map]; exact ⟨.bl _, H, I.tok _, rfl, n _ _ _ _ k (.bl _) hr (Tst.refl _)⟩)
theorem oc_notin (hu : X.A.units + 65 < cLine) : OpR X (compareOp .NotIn) (rC (XF X) .notin) := by
  intro pins s σ H x y v u Q I rx ry ⟨dx, dy, h, Qd, r1, r2, hr, w, n⟩
  have w' : memD h dx dy (fun b => Qd (.bl (!b)) h) := w
  rcases oc_mem hu I rx ry r1 r2 hr w' with ⟨d, ds, b, h1, h2, h3, h4, rfl, k⟩ | ⟨a, o, b, rfl, g, rfl, k⟩ | ⟨a, kvs, rfl, ed, hk, k⟩
  · exact op_notInD hu pins s σ H _ _ v u Q I rx ry ⟨_, _, h1, h2, h3, h4, n _ _ _ _ k (.bl _) hr (Tst.refl _)⟩
  · cases ry
    exact d_notIn (by omega) I g rx fun s3 I3 => ⟨.bl (!o.isSome), H, I3, rfl, n _ _ _ _ k (.bl _) hr (Tst.refl _)⟩
  · cases ry
    obtain ⟨xs, e1, r, hs, hz, nd⟩ := hr.dt ed
    obtain ⟨b, rfl⟩ := isKeyT_ref hk r1
    cases rx
    obtain ⟨nk, ek, _⟩ := isKeyT_N hk
    rw [r.any ek] at k
    exact notIn_keyed (knd := nestedKind X.prog X.w) (room_n (by omega)) (nkey_is I hk r1 ek) hs ⟨xs, dictN I e1 r nd, rfl⟩ (by rw [valueAt_pairsH, Option.isSome_map]; exact ⟨.bl _, H, I.tok _, rfl, n _ _ _ _ k (.bl _) hr (Tst.refl _)⟩)
theorem oc_ok (hu : X.A.units + 65 < cLine) : ∀ op : COp, OpR X (compareOp op.py) (rC (XF X) op)
  | .eq => oc_eq (by omega) | .ne => oc_ne (by omega) | .lt => oc_lt (by omega) | .le => oc_le | .gt => oc_gt | .ge => oc_ge | .isin => oc_in hu | .notin => oc_notin hu | .is => oc_is | .isnot => oc_isnot
end
end Mp
/-! Truth, subscripts, slices, built-in functions, methods. -/
namespace Mp
open PySem PySem.Spec L2
section
variable {X : Cx}
theorem isEmpty_len {α β : Type} {xs : List α} {ys : List β} (h : xs.length = ys.length) : xs.isEmpty = ys.isEmpty := by
  cases xs <;> cases ys <;> first | rfl | (simp at h; done)
theorem tru_of {K : Frag} {H : Hp} {h : Hh} {d : D} {v : V} {b : Bool} (hr : HRep K h H) (r : Rep K H d v) (e : truth h d = some b) : TruV K v H b := by
  cases r with
  | lst s q => cases e
  | non => cases e; rfl
  | bl c => cases e; rfl
  | int i => cases e; rfl
  | str x =>
    have e' : (if x.length ≤ sz then some (!x.isEmpty) else none) = some b := e
    by_cases hl : x.length ≤ sz
    · rw [if_pos hl] at e'
      cases e'
      refine ⟨by rw [S2_len, sz_eq]; exact hl, ?_⟩
      rw [S2_len]
      cases x <;> rfl
    · rw [if_neg hl] at e'; cases e'
  | tup s q =>
    cases e
    exact .inr (.inl ⟨_, s, by rw [isEmpty_len q.length]⟩)
  | ref a =>
    have e' : (match h a with
      | some (.lst xs) => some (!xs.isEmpty)
      | some (.rol xs) => some (!xs.isEmpty)
      | some (.dct kvs) => some (!kvs.isEmpty)
      | _ => none) = some b := e
    split at e'
    · rename_i xs ex
      cases e'
      obtain ⟨vs, e1, q⟩ := hr.l ex
      exact .inl ⟨vs, SqL.of e1, by rw [isEmpty_len q.length]⟩
    · rename_i xs ex
      cases e'
      obtain ⟨vs, e1, q⟩ := hr.rl ex
      exact .inl ⟨vs, e1, by rw [isEmpty_len q.length]⟩
    · rename_i xs ex
      cases e'
      obtain ⟨ks, e1, q⟩ := hr.d ex
      exact .inr (.inr ⟨ks, e1, by rw [isEmpty_len q.length]⟩)
    · cases e'

/-! ### subscripts -/
def rX (K : Frag) : R2 := fun x y H Q => ∃ dx dy h Qd, Rep K H dx x ∧ Rep K H dy y ∧ HRep K h H ∧ opIx dx dy h Qd ∧ NCl K Qd Q H
theorem atI_reps {K : Frag} {H : Hp} {ds : List D} {vs : List V} {i : Int} {d : D} (r : Reps K H ds vs) (e : atI ds i = some d) : ∃ v, atI vs i = some v ∧ Rep K H d v := by
  unfold atI at e ⊢
  rw [r.length] at e
  cases q : ixN vs.length i with
  | none => rw [q] at e; cases e
  | some j =>
    rw [q] at e
    exact r.get e
theorem ix_dct (hu : X.A.units + 1 < cLine) : IxR X (fun x y H Q => ∃ a v, x = .ref a ∧ (∃ kvs k, H a = some (.dK kvs) ∧ y = kV k ∧ valV kvs k = some v) ∧ Q v H) := by
  intro value slice pins s σ H x y v u Q I rx ry ⟨a, z, ex, ⟨kvs, k, e, ey, g⟩, q⟩ hs
  subst ex
  cases rx
  have g' : DGet H a y (some z) := .inl ⟨kvs, k, .inl e, ey, g.symm⟩
  exact PyProof.Rows.tail_any (ops := [.ref a, u]) (dict_typeIs I g') PySem.F.slot_dict_getitem.lookup (d_getItem hu I g' ry fun w' s3 I3 rw' => ⟨z, H, I3, rw', q⟩) hs
theorem ox_ok (hu : X.A.units + 64 < cLine) : IxR X (rX (XF X)) := by
  intro value slice pins s σ H x y v u Q I rx ry ⟨dx, dy, h, Qd, r1, r2, hr, w, n⟩ hs
  unfold opIx at w
  split at w
  · cases r2
    cases r1 with
    | tup s1 q1 =>
      obtain ⟨d, e, k⟩ := w
      obtain ⟨z, e1, rz⟩ := atI_reps q1 e
      exact ix_tup value slice pins s σ H _ _ v u Q I rx ry ⟨_, _, _, _, rfl, rfl, s1, e1, n _ _ _ _ k rz hr (Tst.refl _)⟩ hs
  · cases r1; cases r2
    obtain ⟨hl, c, e, k⟩ := w
    refine ix_str value slice pins s σ H _ _ v u Q I rx ry ⟨_, _, c, rfl, rfl, by rw [S2_len, sz_eq]; exact hl, by rw [S2_cps]; exact e, ?_⟩ hs
    exact n _ _ _ _ k (.str [c]) hr (Tst.refl _)
  · rename_i a i hh Q'
    cases r1
    split at w
    · rename_i xs ex
      obtain ⟨k, d, rfl, e, q⟩ := w
      cases r2
      obtain ⟨vs, e1, qs⟩ := hr.l ex
      obtain ⟨z, e2, rz⟩ := atI_reps qs e
      exact ix_list value slice pins s σ H _ _ v u Q I rx ry ⟨_, _, _, _, rfl, rfl, SqL.of e1, e2, n _ _ _ _ q rz hr (Tst.refl _)⟩ hs
    · rename_i xs ex
      obtain ⟨k, d, rfl, e, q⟩ := w
      cases r2
      obtain ⟨vs, e1, qs⟩ := hr.rl ex
      obtain ⟨z, e2, rz⟩ := atI_reps qs e
      exact ix_list value slice pins s σ H _ _ v u Q I rx ry ⟨_, _, _, _, rfl, rfl, e1, e2, n _ _ _ _ q rz hr (Tst.refl _)⟩ hs
    · rename_i kvs ex
      obtain ⟨hk, d, e, q⟩ := w
      obtain ⟨k, ek⟩ := isKey_keyV hk
      obtain ⟨ks, e1, qs⟩ := hr.d ex
      obtain ⟨z, e2, rz⟩ := qs.look ek e
      exact ix_dct (by omega) value slice pins s σ H _ _ v u Q I rx ry ⟨_, _, rfl, ⟨_, _, e1, keyV_rep ek r2, e2⟩, n _ _ _ _ q rz hr (Tst.refl _)⟩ hs
    · rename_i kvs ex
      obtain ⟨hk, d, e, q⟩ := w
      obtain ⟨xs, e1, r, hS, hz, nd⟩ := hr.dt ex
      obtain ⟨b, rfl⟩ := isKeyT_ref hk r2
      cases rx
      cases ry
      obtain ⟨nk, ek, _⟩ := isKeyT_N hk
      have D := dictN I e1 r nd
      rcases r.look ek with ⟨z, zv, kb, zu, g1, g2, g3, g4⟩ | ⟨g1, _⟩
      · rw [e] at g1; cases g1
        exact PyProof.Rows.tail_any (ops := [.ref _, .ref b]) D.typeIs PySem.F.slot_dict_getitem.lookup (wpAny_getItem_heap (knd := nestedKind X.prog X.w) (room_n hu) (nkey_is I hk r2 ek) D g2 ⟨zv, H, I.tok _, g3, n _ _ _ _ q g4 hr (Tst.refl _)⟩) hs
      · rw [e] at g1; cases g1
    · exact w.elim
  · exact w.elim

/-! ### slices -/
def rS (K : Frag) : V → Option Int → Option Int → Hp → VK → Prop := fun x lo hi H Q => ∃ dx h Qd, Rep K H dx x ∧ HRep K h H ∧ opSl dx lo hi h Qd ∧ NCl K Qd Q H
theorem cut_reps {K : Frag} {H : Hp} {ds : List D} {vs : List V} {lo hi : Option Int} (r : Reps K H ds vs) : Reps K H (cutD ds lo hi) (cutV vs lo hi) := by
  unfold cutD cutV
  rw [r.length]
  exact (r.drop _).take _
theorem cut_all {α : Type} {xs : List α} {lo hi : Option Int} (h1 : HT.sIx xs.length 0 lo = 0) (h2 : HT.sIx xs.length xs.length hi = xs.length) : cutD xs lo hi = xs := by
  unfold cutD
  rw [h1, h2]; simp
theorem os_ok : SlR X (rS (XF X)) := by
  intro pins s σ H x v vl vu lo hi sl Q I rx hs pl pu ⟨dx, h, Qd, r1, hr, w, n⟩
  unfold opSl at w
  split at w
  · cases r1 with
    | tup s1 q1 =>
      refine sl_tupA pins s σ H _ v vl vu lo hi sl Q I rx hs pl pu ⟨_, _, rfl, s1, fun e => ?_, fun _ p hp => ?_⟩
      · refine n _ _ _ _ w ?_ hr (Tst.refl _)
        rw [cut_all (by rw [q1.length]; exact e.1) (by rw [q1.length]; exact e.2)]
        exact .tup s1 q1
      · exact n _ _ _ _ w (rep_tup (cut_reps q1) hp) (hr.new hp) (tst_new hp)
  · cases r1
    refine sl_str pins s σ H _ v vl vu lo hi sl Q I rx hs pl pu ⟨_, rfl, by rw [S2_len, sz_eq]; exact w.1, ?_⟩
    have e : cutS (S2 ‹List Nat›) lo hi = S2 (cutD ‹List Nat› lo hi) := by
      unfold cutS cutD
      rw [S2_cps, S2_len]; rfl
    rw [e]
    exact n _ _ _ _ w.2 (.str _) hr (Tst.refl _)
  · cases r1 with
    | lst s1 q1 => exact sl_list pins s σ H _ v vl vu lo hi sl Q I rx hs pl pu ⟨_, _, rfl, s1.l, fun p hp => n _ _ _ _ (w p (hr.fresh hp)) (.ref p) (lst_mk hr (cut_reps q1) hp) (tst_new hp)⟩
  · cases r1
    split at w
    · rename_i xs ex
      obtain ⟨vs, e1, qs⟩ := hr.l ex
      exact sl_list pins s σ H _ v vl vu lo hi sl Q I rx hs pl pu ⟨_, _, rfl, SqL.of e1, fun p hp => n _ _ _ _ (w p (hr.fresh hp)) (.ref p) (lst_mk hr (cut_reps qs) hp) (tst_new hp)⟩
    · rename_i xs ex
      obtain ⟨vs, e1, qs⟩ := hr.rl ex
      exact sl_list pins s σ H _ v vl vu lo hi sl Q I rx hs pl pu ⟨_, _, rfl, e1, fun p hp => n _ _ _ _ (w p (hr.fresh hp)) (.ref p) (lst_mk hr (cut_reps qs) hp) (tst_new hp)⟩
    · exact w.elim
  · exact w.elim

/-! ### built-in functions -/
def rF (K : Frag) (f : BF) : List V → Hp → VK → Prop := fun xs H Q => ∃ ds h Qd, Reps K H ds xs ∧ HRep K h H ∧ opF f ds h Qd ∧ NCl K Qd Q H
theorem reps1 {K : Frag} {H : Hp} {d : D} {vs : List V} (r : Reps K H [d] vs) : ∃ v, vs = [v] ∧ Rep K H d v := by
  cases r with | cons r1 r2 => cases r2; exact ⟨_, rfl, r1⟩
theorem reps2 {K : Frag} {H : Hp} {d e : D} {vs : List V} (r : Reps K H [d, e] vs) : ∃ v w, vs = [v, w] ∧ Rep K H d v ∧ Rep K H e w := by
  cases r with | cons r1 r2 => obtain ⟨w, rfl, q⟩ := reps1 r2; exact ⟨_, _, rfl, r1, q⟩
theorem seq_of {K : Frag} {H : Hp} {h : Hh} {d : D} {v : V} {xs : List D} (hr : HRep K h H) (r : Rep K H d v) (e : seqD h d = some xs) : ∃ p vs, v = .ref p ∧ (SqL K H p vs ∧ d = .ref p ∨ SqT K H p vs ∧ d = .tup xs) ∧ Reps K H xs vs := by
  cases r with
  | lst s q => cases e
  | tup s q => cases e; exact ⟨_, _, rfl, .inr ⟨s, rfl⟩, q⟩
  | ref a =>
    have e' : (match h a with
      | some (.lst xs) => some xs
      | some (.rol xs) => some xs
      | _ => none) = some xs := e
    split at e'
    · cases e'
      rename_i ex
      obtain ⟨vs, e1, q⟩ := hr.l ex
      exact ⟨_, _, rfl, .inl ⟨SqL.of e1, rfl⟩, q⟩
    · cases e'
      rename_i ex
      obtain ⟨vs, e1, q⟩ := hr.rl ex
      exact ⟨_, _, rfl, .inl ⟨e1, rfl⟩, q⟩
    · cases e'
  | non => cases e
  | bl _ => cases e
  | int _ => cases e
  | str _ => cases e
theorem len_of {K : Frag} {H : Hp} {h : Hh} {d : D} {v : V} {m : Nat} (hr : HRep K h H) (r : Rep K H d v) (e : lenD h d = some m) : LenV K v H m ∨ (∃ a ks, v = .ref a ∧ H a = some (.dK ks) ∧ ks.length = m) ∨ ∃ a kvs, v = .ref a ∧ h a = some (.dcT kvs) ∧ kvs.length = m := by
  cases r with
  | lst s q => cases e
  | str x =>
    have e' : (if x.length ≤ sz then some x.length else none) = some m := e
    by_cases hl : x.length ≤ sz
    · rw [if_pos hl] at e'
      cases e'
      exact .inl ⟨by rw [S2_len, sz_eq]; exact hl, (S2_len x).symm⟩
    · rw [if_neg hl] at e'; cases e'
  | tup s1 q1 =>
    cases e
    exact .inl (.inr ⟨_, s1, q1.length⟩)
  | ref a =>
    have e' : (match h a with
      | some (.lst xs) => some xs.length
      | some (.rol xs) => some xs.length
      | some (.dct kvs) => some kvs.length
      | some (.dcT kvs) => some kvs.length
      | _ => none) = some m := e
    split at e'
    · rename_i ex
      cases e'
      obtain ⟨vs, e1, q⟩ := hr.l ex
      exact .inl (.inl ⟨_, SqL.of e1, q.length⟩)
    · rename_i ex
      cases e'
      obtain ⟨vs, e1, q⟩ := hr.rl ex
      exact .inl (.inl ⟨_, e1, q.length⟩)
    · rename_i ex
      cases e'
      obtain ⟨ks, e1, q⟩ := hr.d ex
      exact .inr (.inl ⟨_, _, rfl, e1, q.length.symm⟩)
    · rename_i ex
      cases e'
      exact .inr (.inr ⟨_, _, rfl, ex, rfl⟩)
    · cases e'
  | non => cases e
  | bl _ => cases e
  | int _ => cases e
theorem of_len : CallR X (.builtin "len") (rF (XF X) .len) := by
  intro pins s σ H xs us Q I r ⟨ds, h, Qd, r1, hr, w, n⟩
  unfold opF at w
  split at w
  all_goals first | (exact False.elim w) | contradiction | skip
  obtain ⟨v, rfl, q⟩ := reps1 r1
  obtain ⟨m, e, k⟩ := w
  have fin := n _ _ _ _ k (.int (m : Int)) hr (Tst.refl _)
  rcases len_of hr q e with l | ⟨a, ks, rfl, l, rfl⟩ | ⟨a, kvs, rfl, l, rfl⟩
  · exact call_len pins s σ H _ us Q I r ⟨_, _, rfl, l, fin⟩
  · exact call_lenD pins s σ H _ us Q I r ⟨_, _, rfl, l, fin⟩
  · obtain ⟨ys, e1, rr, hs, hz, nd⟩ := hr.dt l
    obtain ⟨u, rfl, rx⟩ := vals1 r
    cases rx
    have hl := rr.length
    have := sz_eq
    rw [sizeLine_eq] at this
    refine PySem.call_len_dictH hs (dictN I e1 rr nd) (by omega) ?_
    rw [← hl]
    exact ⟨.int _, H, I.tok _, ⟨_, rfl⟩, fin⟩
theorem of_abs : CallR X (.builtin "abs") (rF (XF X) .abs) := by
  intro pins s σ H xs us Q I r ⟨ds, h, Qd, r1, hr, w, n⟩
  unfold opF at w
  split at w
  all_goals first | (exact False.elim w) | contradiction | skip
  obtain ⟨v, rfl, q⟩ := reps1 r1
  cases q
  exact call_abs pins s σ H _ us Q I r ⟨_, rfl, n _ _ _ _ w (.int _) hr (Tst.refl _)⟩
theorem of_int : CallR X (.type "int") (rF (XF X) .int) := by
  intro pins s σ H xs us Q I r ⟨ds, h, Qd, r1, hr, w, n⟩
  unfold opF at w
  split at w
  all_goals first | (exact False.elim w) | contradiction | skip
  · obtain ⟨v, rfl, q⟩ := reps1 r1
    cases q
    exact call_int1 pins s σ H _ us Q I r (.inl ⟨_, rfl, n _ _ _ _ w (.int _) hr (Tst.refl _)⟩)
  · obtain ⟨v, rfl, q⟩ := reps1 r1
    cases q
    exact call_int1 pins s σ H _ us Q I r (.inr ⟨_, rfl, n _ _ _ _ w (.int _) hr (Tst.refl _)⟩)
theorem of_tuple : CallR X (.type "tuple") (rF (XF X) .tuple) := by
  intro pins s σ H xs us Q I r ⟨ds, h, Qd, r1, hr, w, n⟩
  unfold opF at w
  split at w
  all_goals first | (exact False.elim w) | contradiction | skip
  obtain ⟨v, rfl, q⟩ := reps1 r1
  obtain ⟨ys, e, k⟩ := w
  obtain ⟨p, vs, rfl, sq, rs⟩ := seq_of hr q e
  rcases sq with ⟨sq, rfl⟩ | ⟨sq, rfl⟩
  · exact call_tuple_of pins s σ H _ us Q I r ⟨_, _, rfl, .inl ⟨sq, fun l hl => n _ _ _ _ k (rep_tup rs hl) (hr.new hl) (tst_new hl)⟩⟩
  · exact call_tuple_of pins s σ H _ us Q I r ⟨_, _, rfl, .inr ⟨sq, n _ _ _ _ k q hr (Tst.refl _)⟩⟩
theorem of_list : CallR X (.type "list") (rF (XF X) .list) := by
  intro pins s σ H xs us Q I r ⟨ds, h, Qd, r1, hr, w, n⟩
  unfold opF at w
  split at w
  all_goals first | (exact False.elim w) | contradiction | skip
  obtain ⟨v, rfl, q⟩ := reps1 r1
  obtain ⟨ys, e, k⟩ := w
  obtain ⟨p, vs, rfl, sq, rs⟩ := seq_of hr q e
  refine call_list_of pins s σ H _ us Q I r ⟨_, vs, rfl, ?_, fun l hl => n _ _ _ _ (k l (hr.fresh hl)) (.ref l) (lst_mk hr rs hl) (tst_new hl)⟩
  rcases sq with ⟨sq, _⟩ | ⟨sq, _⟩
  · exact .inl sq
  · exact .inr sq
theorem reps_bl {K : Frag} {H : Hp} : ∀ {bs : List Bool} {vs : List V}, Reps K H (bs.map .bl) vs → vs = bs.map V.bl
  | [], _, r => by cases r; rfl
  | b :: bs, _, r => by
    cases r with
    | cons r1 r2 => cases r1; rw [reps_bl r2]; rfl
theorem of_all (hc : X.calm = true) : CallR X (.builtin "all") (rF (XF X) .all) := by
  intro pins s σ H xs us Q I r ⟨ds, h, Qd, r1, hr, w, n⟩
  unfold opF at w
  split at w
  all_goals first | (exact False.elim w) | contradiction | skip
  obtain ⟨v, rfl, q⟩ := reps1 r1
  cases q
  obtain ⟨bs, e, k⟩ := w
  obtain ⟨vs, e1, q⟩ := hr.l e
  obtain rfl := reps_bl q
  exact cr_all hc pins s σ H _ us Q I r ⟨_, bs, rfl, SqL.of e1, n _ _ _ _ k (.bl _) hr (Tst.refl _)⟩
theorem of_any (hc : X.calm = true) : CallR X (.builtin "any") (rF (XF X) .any) := by
  intro pins s σ H xs us Q I r ⟨ds, h, Qd, r1, hr, w, n⟩
  unfold opF at w
  split at w
  all_goals first | (exact False.elim w) | contradiction | skip
  obtain ⟨v, rfl, q⟩ := reps1 r1
  cases q
  obtain ⟨bs, e, k⟩ := w
  obtain ⟨vs, e1, q⟩ := hr.l e
  obtain rfl := reps_bl q
  exact cr_any hc pins s σ H _ us Q I r ⟨_, bs, rfl, SqL.of e1, n _ _ _ _ k (.bl _) hr (Tst.refl _)⟩

theorem kit_all : ∀ t c : Ty, kitB t.nm c.nm = some (isiB t c) := by
  intro t c
  cases t <;> cases c <;> decide +kernel
theorem sqT_ty {K : Frag} {H : Hp} {a : Addr} {vs : List V} (s : SqT K H a vs) : TyX K H (.ref a) (.type "tuple") := by
  rcases s with (s | ⟨o, s⟩) | ⟨o, its, n, e1, e2, _⟩
  · exact .base (.tup s)
  · exact .fTuple s
  · exact .kTuple e1 e2
theorem ty_of {K : Frag} {H : Hp} {h : Hh} {d : D} {v : V} {t : Ty} (hr : HRep K h H) (r : Rep K H d v) (e : tyD h d = some t) : TyX K H v (.type t.nm) := by
  cases r with
  | lst s q => cases e
  | non => cases e; exact .base .non
  | bl _ => cases e; exact .base (.bl _)
  | int _ => cases e; exact .base (.int _)
  | str _ => cases e; exact .base (.str _)
  | tup s q => cases e; exact sqT_ty s
  | ref a =>
    have e' : (match h a with
      | some (.lst _) => some Ty.list
      | some (.rol _) => some .list
      | some (.dct _) => some .dict
      | _ => none) = some t := e
    split at e'
    · rename_i ex
      cases e'
      obtain ⟨vs, e1, q⟩ := hr.l ex
      exact .base (.lst e1)
    · rename_i ex
      cases e'
      obtain ⟨o, vs, e1, q⟩ := hr _ _ ex
      exact .base (.frz e1)
    · rename_i ex
      cases e'
      obtain ⟨ks, e1, q⟩ := hr.d ex
      exact .base (.dK e1)
    · cases e'
/-- isinstance(d, c): the class stands behind -/
theorem of_isi (c : Ty) : CallR X (.builtin "isinstance") (fun xs H Q => ∃ d y h Qd, xs = [y, .ty c.nm] ∧ Rep (XF X) H d y ∧ HRep (XF X) h H ∧ opF (.isi c) [d] h Qd ∧ NCl (XF X) Qd Q H) := by
  intro pins s σ H xs us Q I r hw
  obtain ⟨d, y, h, Qd, rfl, r1, hr, ⟨t, e, k⟩, n⟩ := hw
  exact call_isi pins s σ H _ us Q I r ⟨y, .ty c.nm, .type t.nm, .type c.nm, isiB t c, rfl, .ty _, ty_of hr r1 e, kit_ty (kit_all t c), n _ _ _ _ k (.bl _) hr (Tst.refl _)⟩

/-! ### min of a list -/
theorem bkV_rel {v : V} {u : Value} (r : RelV v u) : absV u = some v := r.abs
theorem toP_mem : ∀ {xs : List D} {p : PyData}, p ∈ toPs xs → ∃ x ∈ xs, p = toP x
  | [], _, h => by cases h
  | x :: xs, p, h => by
    rw [toPs] at h
    rcases List.mem_cons.mp h with e | h
    · exact ⟨x, List.mem_cons_self, e⟩
    · obtain ⟨y, hy, e⟩ := toP_mem h
      exact ⟨y, List.mem_cons_of_mem _ hy, e⟩
theorem toP_inj : ∀ (n : Nat) (x y : D), flat n x = true → flat n y = true → toP x = toP y → x = y := by
  intro n
  induction n with
  | zero =>
    intro x y hx hy e
    cases x <;> cases y <;> simp_all [flat, toP] <;> exact S2_inj e
  | succ n ih =>
    intro x y hx hy e
    cases x <;> cases y <;> first
      | (simp [flat] at hx; done)
      | (simp [flat] at hy; done)
      | (simp [toP] at e; done)
      | (simp_all [flat, toP]; done)
      | (simp only [toP, PyData.str.injEq] at e; rw [S2_inj e])
      | skip
    rename_i xs ys
    rw [flat] at hx hy
    simp only [toP, PyData.tuple.injEq] at e
    have all : ∀ (xs ys : List D), xs.all (flat n) = true → ys.all (flat n) = true → toPs xs = toPs ys → xs = ys := by
      intro xs
      induction xs with
      | nil =>
        intro ys _ _ e
        cases ys with
        | nil => rfl
        | cons y ys => simp [toPs] at e
      | cons x xs ihx =>
        intro ys h1 h2 e
        cases ys with
        | nil => simp [toPs] at e
        | cons y ys =>
          rw [List.all_cons, Bool.and_eq_true] at h1 h2
          simp only [toPs, List.cons.injEq] at e
          rw [ih x y h1.1 h2.1 e.1, ihx ys h1.2 h2.2 e.2]
    rw [all xs ys hx hy e]
theorem minP_of {f : D → Bool} (hf : ∀ x y, f x = true → f y = true → alk x y = true → ltD x y = PySem.W.dataLt (toP x) (toP y)) : ∀ (xs : List D) (m : D), f m = true → xs.all f = true → (∀ x ∈ xs, alk x m = true ∧ ∀ y ∈ xs, alk x y = true ∧ alk m m = true) →
    toP (xs.foldl (fun m y => if ltD y m then y else m) m) = (toPs xs).foldl (fun a y => if PySem.W.dataLt y a then y else a) (toP m) ∧ True
  | [], m, _, _, _ => ⟨rfl, trivial⟩
  | x :: xs, m, hm, hx, ha => by
    rw [List.all_cons, Bool.and_eq_true] at hx
    rw [List.foldl_cons, toPs, List.foldl_cons]
    have a1 := ha x List.mem_cons_self
    rw [hf x m hx.1 hm a1.1]
    have hxx := a1.2 x List.mem_cons_self
    cases PySem.W.dataLt (toP x) (toP m) with
    | true =>
      refine minP_of hf xs x hx.1 hx.2 fun y hy => ?_
      have b := ha y (List.mem_cons_of_mem _ hy)
      exact ⟨(b.2 x List.mem_cons_self).1, fun z hz => ⟨(b.2 z (List.mem_cons_of_mem _ hz)).1, hxx.1⟩⟩
    | false =>
      refine minP_of hf xs m hm hx.2 fun y hy => ?_
      have b := ha y (List.mem_cons_of_mem _ hy)
      exact ⟨b.1, fun z hz => ⟨(b.2 z (List.mem_cons_of_mem _ hz)).1, hxx.2⟩⟩
theorem min_mem {f : D → D → Bool} : ∀ (xs : List D) (m : D), xs.foldl (fun m y => if f y m then y else m) m = m ∨ xs.foldl (fun m y => if f y m then y else m) m ∈ xs
  | [], m => .inl rfl
  | x :: xs, m => by
    rw [List.foldl_cons]
    cases f x m with
    | true =>
      rcases min_mem (f := f) xs x with e | e
      · exact .inr (by rw [if_pos rfl, e]; exact List.mem_cons_self)
      · exact .inr (by rw [if_pos rfl]; exact List.mem_cons_of_mem _ e)
    | false =>
      rcases min_mem (f := f) xs m with e | e
      · exact .inl (by rw [if_neg (by simp)]; exact e)
      · exact .inr (by rw [if_neg (by simp)]; exact List.mem_cons_of_mem _ e)
theorem fits_flat' {x : D} (h : flat 20 x = true) : fits 20 x = true := fits_flat 20 x h
theorem of_min (hc : X.calm = true) (hu : X.A.units + 64 < cLine) : CallR X (.builtin "min") (rF (XF X) .min) := by
  intro pins s σ H xs us Q I r ⟨ds, h, Qd, r1, hr, w, n⟩
  unfold opF at w
  split at w
  all_goals first | (exact False.elim w) | contradiction | skip
  obtain ⟨v, rfl, q⟩ := reps1 r1
  cases q
  obtain ⟨ys, m, e, hf, ha, hn, em, k⟩ := w
  obtain ⟨vs, e1, q⟩ := hr.l e
  cases ys with
  | nil => cases em
  | cons y ys =>
    have em' : ys.foldl (fun m y => if ltD y m then y else m) y = m := Option.some.inj em
    obtain ⟨u, rfl, ru⟩ := vals1 r
    cases ru
    obtain ⟨its, rv, pl, hz⟩ := I.list (SqL.of e1)
    have hd : DpAll (XF X) H vs (toPs (y :: ys)) := dp_all (f := fun x => if flat 20 x then some x else none) (fun d d' v hd rd => by
      by_cases g : flat 20 d = true
      · rw [if_pos g] at hd
        cases hd
        exact den_dp hr 20 d d v (den_flat 20 d g) rd
      · rw [if_neg g] at hd; cases hd) (mapM_id fun x hx => if_pos (List.all_eq_true.mp hf x hx)) q
    obtain ⟨as, hra⟩ := Dp.readsAll I _ _ _ hd rv
    have hf' := hf
    rw [List.all_cons, Bool.and_eq_true] at hf'
    have hdep : PyData.depthAll (toPs (y :: ys)) ≤ 20 := dep_all (f := flat 20) (fun x hx => dep_of 20 x (fits_flat 20 x hx)) (y :: ys) hf
    refine PySem.W.min_list_data (x := toP y) (xs := toPs ys) (I.ok.hd hc) pl.isList (by rw [List.toList_toArray]; exact hra) ⟨fun p hp p' hp' => ?_, fun p hp => ?_⟩ (by rw [← toPs]; omega) fun i v h' tk bs hv hb hk => ?_
    · rw [← toPs] at hp hp'
      obtain ⟨a, ha1, rfl⟩ := toP_mem hp
      obtain ⟨b, hb1, rfl⟩ := toP_mem hp'
      exact alk_toP a b (ha a ha1 b hb1)
    · rw [← toPs] at hp
      obtain ⟨a, ha1, rfl⟩ := toP_mem hp
      have h1 := hn a ha1
      have h2 := List.all_eq_true.mp hf a ha1
      intro z
      cases a <;> first | exact h1 rfl | (cases z; done) | (simp [flat] at h2; done)
    · have hv' : its[i]? = some v := by rw [← hv]; simp
      have hi : i < its.length := (List.getElem?_eq_some_iff.mp hv').1
      have hlen := rv.length
      obtain ⟨z, hz1, hz2⟩ : ∃ z, vs[i]? = some z ∧ RelV z v := by
        have hi2 : i < vs.length := by omega
        refine ⟨vs[i], List.getElem?_eq_getElem hi2, ?_⟩
        obtain ⟨u', hu1, hu2⟩ := rv.get (List.getElem?_eq_getElem hi2)
        rw [hv'] at hu1
        cases hu1
        exact hu2
      obtain ⟨d, hd1, hd2⟩ := q.get' hz1
      have hdm : d ∈ y :: ys := List.mem_of_getElem? hd1
      have hdf := List.all_eq_true.mp hf d hdm
      have J : L2.Inv X pins σ H { s with heap := h', toks := tk } := I.kept hk
      obtain ⟨bs', hb'⟩ := Dp.reads J _ _ v (den_dp hr 20 d d z (den_flat 20 d hdf) hd2) hz2
      have emp : toP m = PySem.W.minD (toP y) (toPs ys) := by
        rw [← em']
        exact (minP_of (f := flat 20) (fun a b h1 h2 h3 => ltD_toP 20 a b (fits_flat 20 a h1) (fits_flat 20 b h2) h3) ys y hf'.1 hf'.2 fun a ha1 => ⟨ha a (List.mem_cons_of_mem _ ha1) y List.mem_cons_self, fun b hb1 => ⟨ha a (List.mem_cons_of_mem _ ha1) b (List.mem_cons_of_mem _ hb1), ha y List.mem_cons_self y List.mem_cons_self⟩⟩).1
      have hmf : flat 20 m = true := by
        rcases min_mem (f := fun a b => ltD a b) ys y with g | g
        · rw [em'] at g; rw [g]; exact hf'.1
        · rw [em'] at g; exact List.all_eq_true.mp hf'.2 m g
      rw [← emp] at hb
      have huniq : toP m = toP d := SeqAt.plain_unique _ _ _ _ _ (PyData.plain_of_canLay0 _ (lay_of 20 m (fits_flat 20 m hmf))) hb hb'
      have emd : m = d := toP_inj 20 m d hmf hdf huniq
      subst emd
      exact ⟨z, H, J, hz2, n _ _ _ _ k hd2 hr (Tst.refl _)⟩

/-! ### methods -/
def rM (K : Frag) (m : ML) : V → List V → Hp → VK → Prop := fun x xs H Q => ∃ dx ds h Qd, Rep K H dx x ∧ Reps K H ds xs ∧ HRep K h H ∧ opM m dx ds h Qd ∧ NCl K Qd Q H
theorem om_append : MtR X "list.append" (rM (XF X) .append) := by
  intro pins s σ H x xs v us Q I rx rs ⟨dx, ds, h, Qd, r1, r2, hr, w, n⟩
  unfold opM at w
  split at w
  all_goals first | (exact False.elim w) | contradiction | skip
  cases r1
  obtain ⟨z, rfl, rz⟩ := reps1 r2
  obtain ⟨ys, e, hl, k⟩ := w
  obtain ⟨vs, e1, q⟩ := hr.l e
  have wr : WrOk H ‹Nat› := .inl ⟨_, e1⟩
  refine mt_append pins s σ H _ _ v us Q I rx rs ⟨_, _, _, rfl, rfl, e1, by rw [← q.length, sz_eq]; exact hl, ?_⟩
  refine n _ _ _ _ k .non (hr.wr wr ⟨_, upd_same, ?_⟩) (tst_wr wr)
  exact (q.mono (tst_wr wr)).app (.cons (rz.mono (tst_wr wr)) .nil)
theorem om_extend : MtR X "list.extend" (rM (XF X) .extend) := by
  intro pins s σ H x xs v us Q I rx rs ⟨dx, ds, h, Qd, r1, r2, hr, w, n⟩
  unfold opM at w
  split at w
  all_goals first | (exact False.elim w) | contradiction | skip
  cases r1
  obtain ⟨z, rfl, rz⟩ := reps1 r2
  cases rz
  obtain ⟨ys, zs, e, e2, hl, k⟩ := w
  obtain ⟨vs, f1, q1⟩ := hr.l e
  obtain ⟨ws, f2, q2⟩ := hr.l e2
  have wr : WrOk H _ := .inl ⟨_, f1⟩
  refine mt_extend pins s σ H _ _ v us Q I rx rs ⟨_, _, _, _, rfl, rfl, f1, f2, by rw [← q1.length, ← q2.length, sz_eq]; exact hl, ?_⟩
  refine n _ _ _ _ k .non (hr.wr wr ⟨_, upd_same, ?_⟩) (tst_wr wr)
  exact (q1.mono (tst_wr wr)).app (q2.mono (tst_wr wr))

theorem KV.fold : ∀ {ls : List (Key × V)} {ws : List (Key × Value)} {ks : List (Key × V)} {vs : List (Key × Value)}, KV ls ws → KV ks vs → KV (ls.foldl (fun acc p => putK acc p.1 p.2) ks) (merged vs ws)
  | [], _, ks, vs, r, q => by cases r; exact q
  | p :: ls, _, ks, vs, r, q => by
    cases r with
    | cons h t =>
      rename_i b bs
      show KV (ls.foldl _ (putK ks p.1 p.2)) (merged (stored vs b.1 b.2) bs)
      have h1 : p.1 = b.1 := h.1
      rw [← h1]
      exact KV.fold t (KV.put q p.1 h.2)
theorem KReps.fold {K : Frag} {H : Hp} {ls : List (D × D)} {ws : List (Key × V)} (r : KReps K H ls ws) : ∀ {ks : List (D × D)} {vs : List (Key × V)}, KReps K H ks vs → KReps K H (ls.foldl (fun acc p => stor acc p.1 p.2) ks) (ws.foldl (fun acc p => putK acc p.1 p.2) vs) := by
  induction r with
  | nil => intro ks vs q; exact q
  | cons e r s ih => intro ks vs q; exact ih (q.put e r)
theorem fold_len : ∀ (ls ks : List (Key × V)), (ls.foldl (fun acc p => putK acc p.1 p.2) ks).length ≤ ks.length + ls.length
  | [], ks => by simp
  | p :: ls, ks => by
    rw [List.foldl_cons]
    have h1 := fold_len ls (putK ks p.1 p.2)
    have h2 := length_putK ks p.1 p.2
    rw [List.length_cons]; omega
theorem om_update : MtR X "dict.update" (rM (XF X) .update) := by
  intro pins s σ H x xs v us Q I rx rs ⟨dx, ds, h, Qd, r1, r2, hr, w, n⟩
  unfold opM at w
  split at w
  all_goals first | (exact False.elim w) | contradiction | skip
  cases r1
  obtain ⟨z, rfl, rz⟩ := reps1 r2
  cases rz
  obtain ⟨ks, ls, hab, e, e2, hl, k⟩ := w
  obtain ⟨kv, f1, q1⟩ := hr.d e
  obtain ⟨lv, f2, q2⟩ := hr.d e2
  obtain ⟨u, rfl, ru⟩ := vals1 rs
  cases rx; cases ru
  obtain ⟨z1, y1, vs, rel1, d1⟩ := dk_of I.hok f1
  obtain ⟨z2, y2, ws, rel2, d2⟩ := dk_of I.hok f2
  have wr : WrOk H _ := .inr (.inl ⟨_, f1⟩)
  have hsz : kv.length + lv.length ≤ sizeLine := by rw [← q1.length, ← q2.length, sz_eq]; exact hl
  refine call_meetsIn PySem.F.slot_dict_update d1.typeIs PySem.F.entry_dict_update (PySem.F.args_dict_update_2 _ _) (meets_dict_update (mixKind X.prog X.w) _ _ hab y2) ⟨vs, ws, d1, d2, by rw [← KV.length rel1, ← KV.length rel2]; exact hsz, fun h' hd' _ hs => ?_⟩
  have J : L2.Inv X pins σ (upd H _ (.dK (lv.foldl (fun acc p => putK acc p.1 p.2) kv))) { s with heap := h' } :=
    I.write (t' := s.toks) (by rw [f1]; trivial) (.inl rfl) (fun b u hb q => (hs.2 b hb).trans q) ⟨_, hd'.choose_spec.choose_spec.choose_spec.1⟩ (dk_new (Nat.le_trans (fold_len _ _) hsz) y1 (KV.fold rel2 rel1) hd')
  exact ⟨.non, _, J, rfl, n _ _ _ _ k .non (hr.wr wr ⟨_, upd_same, (KReps.fold (q2.mono (tst_wr wr)) (q1.mono (tst_wr wr)))⟩) (tst_wr wr)⟩

/-! ### text, order, counts -/
theorem itoa_S2 (i : Int) : (toString i : Str) = S2 (itoa i) := by
  show Str.ofString (toString i) = _
  rw [Str.ofString_eq_toList]; rfl
theorem of_str : CallR X (.type "str") (rF (XF X) .str) := by
  intro pins s σ H xs us Q I r ⟨ds, h, Qd, r1, hr, w, n⟩
  unfold opF at w
  split at w
  all_goals first | (exact False.elim w) | contradiction | skip
  obtain ⟨v, rfl, q⟩ := reps1 r1
  cases q
  exact call_str_int pins s σ H _ us Q I r ⟨_, rfl, w.1, by rw [itoa_S2]; exact n _ _ _ _ w.2 (.str _) hr (Tst.refl _)⟩
theorem leD_le {xs : List D} (hf : xs.all (flat 20) = true) (ha : ∀ x ∈ xs, ∀ y ∈ xs, alk x y = true) : xs.mergeSort (PySem.W.dataLe false toP) = xs.mergeSort leD := by
  refine PySem.W.sort_congr fun a h1 b h2 => ?_
  rw [PySem.W.dataLe_eq]
  show (!PySem.W.dataLt (toP b) (toP a)) = !ltD b a
  rw [ltD_toP 20 b a (fits_flat 20 b (List.all_eq_true.mp hf b h2)) (fits_flat 20 a (List.all_eq_true.mp hf a h1)) (ha b h2 a h1)]
theorem flat_dp {H : Hp} {h : Hh} (hr : HRep (XF X) h H) {xs : List D} {vs : List V} (hf : xs.all (flat 20) = true) (q : Reps (XF X) H xs vs) : DpAll (XF X) H vs (toPs xs) := dp_all (f := fun x => if flat 20 x then some x else none) (fun d d' v hd rd => by
  by_cases g : flat 20 d = true
  · rw [if_pos g] at hd
    cases hd
    exact den_dp hr 20 d d v (den_flat 20 d g) rd
  · rw [if_neg g] at hd; cases hd) (mapM_id fun x hx => if_pos (List.all_eq_true.mp hf x hx)) q
theorem each_of {H : Hp} : ∀ {its : List Value} {vs : List V} {ds : List D}, Vals vs its → Reps (XF X) H ds vs → PySem.W.EachIs (fun u d => ∃ z, RelV z u ∧ Rep (XF X) H d z) its ds
  | _, _, _, .nil, .nil => .nil
  | _, _, _, .cons a b, .cons c d => .cons ⟨_, a, c⟩ (each_of b d)
theorem each_to {H : Hp} : ∀ {its : List Value} {ds : List D}, PySem.W.EachIs (fun u d => ∃ z, RelV z u ∧ Rep (XF X) H d z) its ds → ∃ vs, Vals vs its ∧ Reps (XF X) H ds vs
  | _, _, .nil => ⟨[], .nil, .nil⟩
  | _, _, .cons ⟨z, a, c⟩ r => by
    obtain ⟨vs, h1, h2⟩ := each_to r
    exact ⟨z :: vs, .cons a h1, .cons c h2⟩
theorem toPs_eq (xs : List D) : toPs xs = xs.map toP := toPs_map xs
theorem NReps.keys {K : Frag} {H : Hp} : ∀ {kvs : List (D × D)} {xs : List (NestedKey × Addr × Value)}, NReps K H kvs xs → Reps K H (kvs.map (·.1)) (xs.map fun x => V.ref x.2.1) ∧ Vals (xs.map fun x => V.ref x.2.1) (xs.map fun x => Value.ref x.2.1)
  | _, _, .nil => ⟨.nil, .nil⟩
  | _, _, .cons _ _ c _ _ r => ⟨.cons c r.keys.1, .cons rfl r.keys.2⟩
/-- the facts that sorting asks -/
theorem srt_facts {H : Hp} {h : Hh} {s : Shared} {pins : List (Addr × Obj)} {σ : St} (I : L2.Inv X pins σ H s) (hr : HRep (XF X) h H) {ys : List D} {vs : List V} {its : List Value} (hf : ys.all (flat 20) = true) (ha : ∀ x ∈ ys, ∀ y ∈ ys, alk x y = true) (ho : ys.all tupN = true ∨ ys.all noTup = true) (q : Reps (XF X) H ys vs) (rv : Vals vs its) :
    PySem.W.AllAlike (ys.map toP) ∧ PySem.W.Sortable (ys.map toP) ∧ ∃ as, ReadsAll s.heap its (ys.map toP) as := by
  have hd := flat_dp hr hf q
  obtain ⟨as, hra⟩ := Dp.readsAll I _ _ _ hd rv
  rw [toPs_map] at hra
  refine ⟨fun d h1 d' h2 => ?_, ?_, as, hra⟩
  · obtain ⟨a, g1, rfl⟩ := List.mem_map.mp h1
    obtain ⟨b, g2, rfl⟩ := List.mem_map.mp h2
    exact alk_toP a b (ha a g1 b g2)
  · rcases ho with ho | ho
    · refine .inl fun d hd => ?_
      obtain ⟨a, h1, rfl⟩ := List.mem_map.mp hd
      have h2 := List.all_eq_true.mp ho a h1
      cases a <;> first | (cases h2; done) | skip
      rename_i ts
      cases ts with
      | nil => cases h2
      | cons t ts => exact ⟨toP t, toPs ts, rfl⟩
    · refine .inr fun d hd => ?_
      obtain ⟨a, h1, rfl⟩ := List.mem_map.mp hd
      have h2 := List.all_eq_true.mp ho a h1
      have h3 := List.all_eq_true.mp hf a h1
      cases a <;> first | (cases h2; done) | (simp [flat] at h3; done) | exact ⟨fun z => (by cases z), fun xs z => (by cases z)⟩
mutual
theorem reads_flat {h : Heap} : ∀ (n : Nat) (d : D) (v : Value) (as : List Addr), flat n d = true → Reads h v (toP d) as → as = []
  | _, .non, _, _, _, r => by cases r; rfl
  | _, .bl _, _, _, _, r => by cases r; rfl
  | _, .int _, _, _, _, r => by cases r; rfl
  | _, .str _, _, _, _, r => by cases r; rfl
  | n + 1, .tup xs, _, _, e, r => by
    have r : Reads h _ (.tuple (toPs xs)) _ := r
    cases r with
    | tuple h1 h2 h3 h4 => exact readsAll_flat n xs _ _ e h4
  | 0, .tup _, _, _, e, _ => by simp [flat] at e
  | n, .lst _, _, _, e, _ => by cases n <;> simp [flat] at e
  | n, .ref _, _, _, e, _ => by cases n <;> simp [flat] at e
theorem readsAll_flat {h : Heap} : ∀ (n : Nat) (ds : List D) (vs : List Value) (as : List Addr), ds.all (flat n) = true → ReadsAll h vs (toPs ds) as → as = []
  | _, [], _, _, _, r => by
    have r : ReadsAll h _ [] _ := r
    cases r; rfl
  | n, d :: ds, _, _, e, r => by
    rw [List.all_cons, Bool.and_eq_true] at e
    have r : ReadsAll h _ (toP d :: toPs ds) _ := r
    cases r with
    | cons r1 r2 => rw [reads_flat n d _ _ e.1 r1, readsAll_flat n ds _ _ e.2 r2]; rfl
end
theorem er_flat {h : Heap} {D' : Addr} : ∀ {its : List Value} {ys : List D}, PySem.W.EachIs (fun v b => ∃ as, Reads h v (toP b) as) its ys → ys.all (flat 20) = true → PySem.W.EachIs (fun v b => ∃ as, Reads h v (toP b) as ∧ D' ∉ as) its ys
  | _, _, .nil, _ => .nil
  | _, _, .cons ⟨as, r⟩ t, e => by
    rw [List.all_cons, Bool.and_eq_true] at e
    refine .cons ⟨as, r, ?_⟩ (er_flat t e.2)
    rw [reads_flat 20 _ _ _ e.1 r]; exact List.not_mem_nil
theorem sorted_n (hc : X.calm = true) (hu : X.A.units + 64 < cLine) {pins : List (Addr × Obj)} {s : Shared} {σ : St} {H : Hp} {h : Hh} {a : Addr} {kvs : List (D × D)} {Q : VK} (I : L2.Inv X pins σ H s) (hr : HRep (XF X) h H) (e : h a = some (.dcT kvs)) (hl : (kvs.map (·.1)).length ≤ sz) (hf : (kvs.map (·.1)).all (flat 20) = true) (ha : ∀ x ∈ kvs.map (·.1), ∀ y ∈ kvs.map (·.1), alk x y = true) (ho : (kvs.map (·.1)).all tupN = true ∨ (kvs.map (·.1)).all noTup = true)
    (k : ∀ p ws, H p = none → Reps (XF X) H ((kvs.map (·.1)).mergeSort leD) ws → Q (.ref p) (upd H p (.lst ws))) : wpAny (model X.prog X.w) X.A (call (.builtin "sorted") [.ref a]) (EP X pins σ Q) X.xe s := by
  obtain ⟨xs, e1, r, hs, hz, nd⟩ := hr.dt e
  obtain ⟨o, es, ep, h1, h2, h3, h4, _⟩ := dictN I e1 r nd
  obtain ⟨rk, rv⟩ := r.keys
  have hsz : es.size = xs.length := size_of_entries h4
  have hlx := r.length
  have hle : es.size ≤ sizeLine := by rw [hsz, ← hlx, sz_eq]; exact hz
  refine Calls.call_function_entry PyProof.Rows.kind_sorted PyProof.Rows.plain_sorted PyProof.Rows.entry_sorted (PyProof.Rows.args_sorted1 _) ?_
  unfold Builtin.«sorted»
  refine wpAny_bind (m := checkCount "sorted" 1 1 _) (wpAny_pure ?_)
  refine wpAny_bind (PySem.W.kdu_collect (A := X.A.in1) (PySem.KdlSrc.rawDict (es := es) (ep := ep) hs) (I.ok.hd hc) ⟨o, h1, h2, h3⟩ hle fun h' tk acc hk hacc => ?_)
  have hlen : acc.toList.length = es.size := by rw [Array.length_toList]; exact hacc.1
  refine wpAny_bind (wpAny_newList ?_ (by rw [hlen]; exact hle))
  have eacc : acc.toList = xs.map fun x => Value.ref x.2.1 := by
    refine List.ext_getElem? fun i => ?_
    rw [List.getElem?_map]
    by_cases hi : i < es.size
    · have hi2 : i < acc.toList.length := by omega
      rw [List.getElem?_eq_getElem hi2]
      obtain ⟨hj, ev⟩ := hacc.2 i acc.toList[i] (by rw [← Array.getElem?_toList, List.getElem?_eq_getElem hi2])
      rw [ev]
      have hx := entry_at h4 i
      rw [Array.getElem?_eq_getElem hi] at hx
      have hi3 : i < xs.length := by omega
      rw [List.getElem?_eq_getElem hi3] at hx ⊢
      have hx := Option.some.inj hx
      rw [hx]; rfl
    · have hi2 : ¬ i < acc.toList.length := by omega
      have hi3 : ¬ i < xs.length := by omega
      rw [List.getElem?_eq_none (by omega), List.getElem?_eq_none (by omega)]; rfl
  rw [eacc]
  have J : L2.Inv X pins σ H { s with heap := h'.push { cls := .type "list", data := .seq (xs.map fun x => Value.ref x.2.1).toArray }, toks := tk } := I.kept fun b o q => Heap.get?_push_of_some _ (hk b o q)
  have hD : (h'.push { cls := .type "list", data := .seq (xs.map fun x => Value.ref x.2.1).toArray }).get? h'.objs.size = some (PyProof.Rows.seqObj "list" (xs.map fun x => Value.ref x.2.1).toArray 0) := Heap.get?_push_size _ rfl
  obtain ⟨hal, hk2, as, hra⟩ := srt_facts J hr hf ha ho rk rv
  have hn : s.heap.get? h'.objs.size = none := by
    cases q : s.heap.get? h'.objs.size with
    | none => rfl
    | some o => exact absurd (Heap.lt_size (hk _ _ q)) (Nat.lt_irrefl _)
  have hHn : H h'.objs.size = none := (show L2.Inv X pins σ H { s with heap := h', toks := tk } from I.kept hk).hok.fresh (Nat.le_refl _)
  refine wpAny_bind (wpAny_holding (PySem.W.list_sort_data (R := fun u d => ∃ z, RelV z u ∧ Rep (XF X) H d z) (enc := toP) (bs := kvs.map (·.1)) hD (each_of rv rk) ?_ hal hk2 (by rw [sz_eq]; exact hl) (fun b hb => ?_) fun out ho' eo => ?_))
  · have er := PySem.W.readsAll_each toP hra
    refine er_flat er hf
  · have := dep_of 20 b (fits_flat 20 b (List.all_eq_true.mp hf b hb))
    show X.A.units + 1 + 1 + _ < cLine
    omega
  · rw [leD_le hf ha] at eo
    obtain ⟨ws, g1, g2⟩ := each_to eo
    obtain ⟨ep', he'⟩ := PyProof.Rows.sortedHeap_at (out := out.toArray) hD
    refine wpAny_pure ⟨_, rfl, .ref h'.objs.size, upd H h'.objs.size (.lst ws), ?_, rfl, k _ ws hHn g2⟩
    refine I.laidN (fun b u q => ?_) hn hHn ⟨by rw [g1.length, ho', sz_eq]; exact hl, out, ep', g1, he'⟩
    have hb := Heap.lt_size (hk b u q)
    rw [PyProof.Rows.sortedHeap_old (Nat.ne_of_lt hb) (Heap.lt_size (Heap.get?_push_of_some _ (hk b u q)))]
    exact Heap.get?_push_of_some _ (hk b u q)
theorem of_sorted (hc : X.calm = true) (hu : X.A.units + 64 < cLine) : CallR X (.builtin "sorted") (rF (XF X) .sorted) := by
  intro pins s σ H xs us Q I r ⟨ds, h, Qd, r1, hr, w, n⟩
  unfold opF at w
  split at w
  all_goals first | (exact False.elim w) | contradiction | skip
  obtain ⟨v, rfl, q⟩ := reps1 r1
  cases q
  obtain ⟨ys, e, hl, hf, ha, ho, k⟩ := w
  obtain ⟨u, rfl, ru⟩ := vals1 r
  cases ru
  rcases e with e | ⟨kvs, e, rfl⟩
  · obtain ⟨vs, e1, q⟩ := hr.l e
    obtain ⟨its, rv, pl, hz⟩ := I.list (SqL.of e1)
    obtain ⟨hal, hk, as, hra⟩ := srt_facts I hr hf ha ho q rv
    refine PySem.W.sorted_data (R := fun u d => ∃ z, RelV z u ∧ Rep (XF X) H d z) (enc := toP) pl.isList (each_of rv q) (PySem.W.readsAll_each toP hra) hal hk (by rw [sz_eq]; exact hl) (fun b hb => ?_) fun out ho eo => ?_
    · have := dep_of 20 b (fits_flat 20 b (List.all_eq_true.mp hf b hb))
      omega
    · rw [leD_le hf ha] at eo
      obtain ⟨ws, h1, h2⟩ := each_to eo
      obtain ⟨ep, he'⟩ := PyProof.Rows.sortedAll_at s.heap its out.toArray
      have hlen : ws.length ≤ sizeLine := by rw [h1.length, ho, sz_eq]; exact hl
      have hp := I.hok.fresh (Nat.le_succ s.heap.objs.size)
      exact ⟨.ref _, upd H (s.heap.objs.size + 1) (.lst ws), I.laid (t' := s.toks) (fun _ _ => PyProof.Rows.sortedAll_old) (Nat.le_succ _) ⟨hlen, out, ep, h1, he'⟩, rfl, n _ _ _ _ (k _ (hr.fresh hp)) (.ref _) (lst_mk hr h2 hp) (tst_new hp)⟩
  · exact sorted_n hc hu I hr e hl hf ha ho fun p ws hp g => n _ _ _ _ (k _ (hr.fresh hp)) (.ref _) (lst_mk hr g hp) (tst_new hp)
theorem om_pop : MtR X "list.pop" (rM (XF X) .pop) := by
  intro pins s σ H x xs v us Q I rx rs ⟨dx, ds, h, Qd, r1, r2, hr, w, n⟩
  unfold opM at w
  split at w
  all_goals first | (exact False.elim w) | contradiction | skip
  cases r1
  cases r2
  obtain ⟨ys, d, e, k⟩ := w
  obtain ⟨vs, e1, q⟩ := hr.l e
  have hl := q.length
  obtain ⟨z, hz, rz⟩ := q.get (i := ys.length) (d := d) (by simp)
  rw [List.length_append] at hl
  simp only [List.length_cons, List.length_nil] at hl
  have wr : WrOk H _ := .inl ⟨_, e1⟩
  refine mt_pop pins s σ H _ _ v us Q I rx rs ⟨_, vs, z, rfl, rfl, e1, by rw [show vs.length - 1 = ys.length by omega]; exact hz, ?_⟩
  refine n _ _ _ _ k (rz.mono (tst_wr wr)) (hr.wr (c := .lst ys) wr ⟨_, upd_same, ?_⟩) (tst_wr wr)
  have := (q.take ys.length).mono (tst_wr (o := HO.lst vs.dropLast) wr)
  rw [List.take_left' rfl] at this
  rw [List.dropLast_eq_take, show vs.length - 1 = ys.length by omega] at *
  exact this
theorem om_count (hu : X.A.units + 65 < cLine) : MtR X "list.count" (rM (XF X) .count) := by
  intro pins s σ H x xs v us Q I rx rs ⟨dx, ds, h, Qd, r1, r2, hr, w, n⟩
  unfold opM at w
  split at w
  all_goals first | (exact False.elim w) | contradiction | skip
  cases r1
  obtain ⟨z, rfl, rz⟩ := reps1 r2
  obtain ⟨ys, ys', d', e, g1, g2, f1, f2, k⟩ := w
  obtain ⟨vs, e1, q⟩ := hr.l e
  cases rx
  obtain ⟨u, rfl, ru⟩ := vals1 rs
  obtain ⟨its, rv, pl, hz⟩ := I.list (SqL.of e1)
  obtain ⟨as, hra⟩ := Dp.readsAll I _ _ _ (dp_all (den_dp hr 20) g1 q) rv
  obtain ⟨bs, hrb⟩ := Dp.reads I _ _ u (den_dp hr 20 _ _ _ g2 rz) ru
  have hdep := dep_of 20 d' f2
  have hpl : PyData.plainAll (toPs ys') = true := PyData.plainAll_of_canLay0 _ (lay_all (lay_of 20) ys' f1)
  refine PySem.SeqAt.count_list_data pl.isList (by rw [List.toList_toArray]; exact hra) hrb hpl (PyData.plain_of_canLay0 _ (lay_of 20 d' f2)) (by omega) ?_
  have ec : (toPs ys').countP (fun y => PyData.eqv y (toP d')) = ys'.countP fun z => eqv z d' := by
    rw [toPs_map, List.countP_map]
    refine List.countP_congr fun a h1 => ?_
    show (PyData.eqv (toP a) (toP d') = true) ↔ _
    rw [eqv_toP 20 a d' (List.all_eq_true.mp f1 a h1) f2]
  rw [ec]
  exact ⟨.int _, H, I.kept (fun _ _ e => e), ⟨_, rfl⟩, n _ _ _ _ k (.int _) hr (Tst.refl _)⟩
theorem om_index (hu : X.A.units + 65 < cLine) : MtR X "list.index" (rM (XF X) .index) := by
  intro pins s σ H x xs v us Q I rx rs ⟨dx, ds, h, Qd, r1, r2, hr, w, n⟩
  unfold opM at w
  split at w
  all_goals first | (exact False.elim w) | contradiction | skip
  cases r1
  obtain ⟨z, rfl, rz⟩ := reps1 r2
  obtain ⟨ys, ys', d', j, e, g1, g2, f1, f2, ej, k⟩ := w
  obtain ⟨vs, e1, q⟩ := hr.l e
  obtain ⟨hj, h1, h2⟩ := List.findIdx?_eq_some_iff_getElem.mp ej
  refine L2.mt_indexD hu pins s σ H _ _ v us Q I rx rs ⟨_, z, toP d', toPs ys', j, toP ys'[j], rfl, rfl, .lst (SqL.of e1) (dp_all (den_dp hr 20) g1 q), den_dp hr 20 _ _ _ g2 rz, shaped_lst f1, shaped_of f2, ?_, ?_, ?_, n _ _ _ _ k (.int _) hr (Tst.refl _)⟩
  · rw [toPs_map, List.getElem?_map, List.getElem?_eq_getElem hj]; rfl
  · rw [← eqv_toP 20 _ d' (List.all_eq_true.mp f1 _ (List.getElem_mem hj)) f2]; exact h1
  · intro m z' hm hz
    have hm' : m < ys'.length := by omega
    rw [toPs_map, List.getElem?_map, List.getElem?_eq_getElem hm'] at hz
    cases hz
    rw [← eqv_toP 20 _ d' (List.all_eq_true.mp f1 _ (List.getElem_mem hm')) f2]
    simpa using h2 m hm
end
end Mp
/-! enumerate(tuple). -/
namespace PySem
open Sem (wp)
open AutoSeq1 (wpAny_loadPart')
theorem mp_enum_newT (l : Addr) (items : Array Value) (n : Nat) (dct : Option Addr) (sl : Array (Option Value)) :
    Meets (Builtin.«enumerate.__new__» ⟨[.type "enumerate", .ref l], []⟩) (fun _ R s => s.heap.get? l = some { cls := .type "tuple", dict := dct, data := .seq items n, slots := sl } ∧
      R (.ok (.ret (.ref (s.heap.push { cls := .type "tuple_iterator", data := .fields #[.ref l, .int 0 0] }).objs.size)))
        { s with heap := (s.heap.push { cls := .type "tuple_iterator", data := .fields #[.ref l, .int 0 0] }).push { cls := .type "enumerate", data := .fields #[.none, .bool false, .ref s.heap.objs.size, rawInt 0, .none, .none] } }) :=
  .of_wp fun prog w A R s h => by
    obtain ⟨hp, g, d, tk, os⟩ := s; obtain ⟨hl, h⟩ := h
    have hsub := sub_enumerate
    have hL : Heap.IsTuple (Shared.heap ⟨hp, g, d, tk, os⟩) l items := ⟨_, hl, rfl, n, rfl⟩
    wp_walk using wpAny_loadPart' hl
    refine wpAny_stack_any fun st => wpAny_pure ?_
    split
    · rename_i c _ _ _ _ _
      cases (c == Value.type "enumerate")
      · wp_walk using wpAny_loadPart' hl, wpAny_pyIter_tuple hL
        exact ⟨_, rfl, h⟩
      · wp_walk using wpAny_loadPart' hl, wpAny_pyIter_tuple hL
        exact ⟨_, rfl, h⟩
    · wp_walk using wpAny_loadPart' hl, wpAny_pyIter_tuple hL
      exact ⟨_, rfl, h⟩
section
variable {prog : Program} {w : World} {A : Around} {E : Value → Shared → Prop} {s : Shared}
theorem mp_call_enumT {l : Addr} {items : Array Value} {Q : Value → Shared → Prop} (hL : s.heap.IsTuple l items)
    (h : ∀ h', IsEnum h' (s.heap.objs.size + 1) s.heap.objs.size 0 .none → h'.IsTupleIter s.heap.objs.size l 0 → h'.objs.size = s.heap.objs.size + 2 →
      (∀ b o, s.heap.get? b = some o → h'.get? b = some o) → Q (.ref (s.heap.objs.size + 1)) { s with heap := h' }) :
    wpAny (model prog w) A (call (.type "enumerate") [.ref l]) Q E s := by
  obtain ⟨⟨c, dct, dt, sl⟩, hl, hc, n, hd⟩ := hL
  replace hc : c = .type "tuple" := hc
  replace hd : dt = .seq items n := hd
  subst hc hd
  refine callType_new F.called_enumerate (by decide) (F.typeCall_enumerate_1 _) (F.newCall_enumerate_1 _) (fun obj => F.args_object_init_2 obj _) F.entry_enumerate_new
    (mp_enum_newT l items n dct sl) ⟨hl, ?_⟩
  have hz : (s.heap.push { cls := .type "tuple_iterator", data := .fields #[.ref l, .int 0 0] }).objs.size = s.heap.objs.size + 1 := Heap.size_push ..
  show _ ∧ _
  rw [hz]
  have he : IsEnum ((s.heap.push { cls := .type "tuple_iterator", data := .fields #[.ref l, .int 0 0] }).push
      { cls := .type "enumerate", data := .fields #[.none, .bool false, .ref s.heap.objs.size, rawInt 0, .none, .none] }) (s.heap.objs.size + 1) s.heap.objs.size 0 .none := by
    have := Heap.get?_push_size (s.heap.push { cls := .type "tuple_iterator", data := .fields #[.ref l, .int 0 0] })
      (o := { cls := .type "enumerate", data := .fields #[.none, .bool false, .ref s.heap.objs.size, rawInt 0, .none, .none] }) rfl
    rw [hz] at this; exact this
  refine ⟨⟨_, he, rfl⟩, h _ he ⟨_, Heap.get?_push_of_some _ (Heap.get?_push_size _ rfl), rfl, rfl⟩ (by rw [Heap.size_push, hz]) fun b o x => Heap.get?_push_of_some _ (Heap.get?_push_of_some _ x)⟩
end
end PySem
namespace Mp
open PySem PySem.Spec L2
/-- the tuple at a as it stands at each turn, each item in a new pair -/
def IteT (K : PySem.W.Frag) (a : Addr) : L2.It :=
  ⟨fun i H => ∃ (xs : List V) (x : V), SqT K H a xs ∧ xs[i]? = some x, fun i H v H' => ∃ T x, v = .ref T ∧ H T = none ∧ H' = upd H T (.tup [.int (i : Nat), x]) ∧ ∀ xs, SqT K H a xs → xs[i]? = some x, fun i H => ∃ xs : List V, SqT K H a xs ∧ xs.length ≤ i⟩
theorem turn_enumT {P : Program} {w : World} {K : PySem.W.Frag} {elts : List Expr} {kk : Nat} {tpos : Pos} (a e it : Addr) :
    Turn P w K (.Tuple elts kk tpos) (IteT K a) [e, it] e (fun i h => (∃ old, IsEnum h e it ((i : Nat) : Int) old) ∧ h.IsTupleIter it a i ∧ e ≠ it) where
  mem := by simp
  obj := fun i h st b hb => by
    obtain ⟨⟨old, he⟩, ⟨o, ho, hc, hd⟩, _⟩ := st
    have e' : b = e ∨ b = it := by simpa using hb
    rcases e' with z | z
    · rw [z]; exact ⟨_, he, fun v q => nomatch q⟩
    · rw [z]; exact ⟨o, ho, fun v q => by rw [hd] at q; cases q⟩
  keep := fun i h h' st k => let ⟨⟨old, he⟩, hi, hne⟩ := st; ⟨⟨old, k e (by simp) _ he⟩, hi.at fun o q => k it (by simp) o q, hne⟩
  item := by
    intro X hP hw hK hc i pins s σ H E I hf st hg
    subst hP hw hK
    obtain ⟨⟨old, he⟩, hit, hne⟩ := st
    obtain ⟨xs, x, hq, hx⟩ := hg
    obtain ⟨its, rv, p, hz⟩ := I.tuple hq
    obtain ⟨u, hu, ru⟩ := rv.get hx
    have hel : e < s.heap.objs.size := Heap.lt_size he
    have hil : it < s.heap.objs.size := by obtain ⟨_, q, _⟩ := hit; exact Heap.lt_size q
    have hai : a ≠ it := by
      rintro rfl
      obtain ⟨o1, h1, h2, _⟩ := hit
      obtain ⟨o2, h3, h4, _⟩ := p
      rw [h1] at h3; cases h3; rw [h2] at h4; exact absurd h4 (by decide)
    have hea : e ≠ a := by
      rintro rfl
      obtain ⟨o2, h3, h4, _⟩ := p
      have he' := he
      unfold IsEnum at he'
      rw [he'] at h3; cases h3
      have h5 : Value.type "enumerate" = Value.type "tuple" := h4
      exact absurd h5 (by decide)
    have D := Draws.tuple (prog := X.prog) (w := X.w) (A := X.A.in1) (I.ok.hd hc) it a hai its.toArray
    have hlt : i < its.toArray.size := by
      have := (List.getElem?_eq_some_iff.mp hu).1
      simpa using this
    refine wpAny_pyNext_enum_itemC D he ⟨hit, p⟩ hlt hne (by simp [hne, hea]) fun y h' tk hy ho hst' hT hsz hk => ?_
    have hyu : y = u := by
      have h1 : its[i]? = some y := by simpa using hy
      rw [hu] at h1; exact (Option.some.inj h1).symm
    subst hyu
    obtain ⟨hit', _⟩ := hst'
    refine ⟨_, rfl, wpAny_letOwnedTupleGo_enum (s := { s with heap := h', toks := tk + 1 }) ho fun h'' he' sb => ?_⟩
    have hT2 : h''.get? s.heap.objs.size = some { cls := .type "tuple", data := .seq #[.int i tk, y] } := (sb.2 _ (Nat.ne_of_gt hel)).trans hT
    have new : ObjOk X.prog X.w (upd H s.heap.objs.size (.tup [.int (i : Nat), x])) h'' s.heap.objs.size (.tup [.int (i : Nat), x]) :=
      ⟨by show 2 ≤ sizeLine; decide, [.int i tk, y], .cons ⟨_, rfl⟩ (.cons ru .nil), ⟨_, hT2, rfl, _, rfl⟩⟩
    have I1 : L2.Inv X pins σ (upd H s.heap.objs.size (.tup [.int (i : Nat), x])) { s with heap := h'', toks := tk + 1 } :=
      I.turnedNew (t' := tk + 1) (ch := [e, it]) (fun b ob hb q => (sb.2 b (fun z => hb (by simp [z]))).trans (hk b ob (fun z => hb (by simp [z])) (fun z => hb (by simp [z])) q)) hf (Nat.le_refl _) new
    refine ⟨.ref s.heap.objs.size, _, I1, rfl, ⟨_, x, rfl, I.hok.fresh (Nat.le_refl _), rfl, fun ys hy => by rw [I.tuple_inj hy hq]; exact hx⟩, ⟨⟨y, ?_⟩, hit'.at fun o q => (sb.2 it (Ne.symm hne)).trans q, hne⟩, fun b hb => ?_⟩
    · have e1 : ((i + 1 : Nat) : Int) = (i : Int) + 1 := by omega
      rw [e1]; exact he'
    · have hb' : b < s.heap.objs.size := by
        have e' : b = e ∨ b = it := by simpa using hb
        rcases e' with z | z
        · rw [z]; exact hel
        · rw [z]; exact hil
      rw [upd_ne (Nat.ne_of_lt hb')]
      exact (hf b hb).1
  done := by
    intro X hP hw hK hc i pins s σ H E I hf st hg
    subst hP hw hK
    obtain ⟨⟨old, he⟩, hit, hne⟩ := st
    obtain ⟨xs, hq, hx⟩ := hg
    obtain ⟨its, rv, p, hz⟩ := I.tuple hq
    obtain ⟨f0, f1, f2, f3, f4, f5⟩ := hf it (by simp)
    have hl := rv.length
    have hT : s.TypeIs (.ref e) "enumerate" := ⟨_, he, rfl⟩
    unfold pyNext
    refine wpAny_bind (wpAny_attempt (wpAny_callSpecial?_slot (name := Str.ofString "__next__") hT PySem.F.slot_enumerate_next
      (wpAny_call_entry PySem.F.slot_enumerate_next hT PySem.F.entry_enumerate_next ?_ (PySem.F.args_enumerate_next_1 _))))
    show wpAny _ _ (field (.ref e) 2 >>= _) _ _ _
    refine wpAny_bind (wpAny_field he rfl (x := .ref it) rfl ?_)
    refine wpAny_bind (wpAny_nextOf_tuple_end (by exact I.ok.hd hc) hit p (by simp; omega) fun h' x he' hx' => ?_)
    obtain ⟨o, ho, hc⟩ := hx'
    refine wpAny_bind (wpAny_isInstance (T := "StopIteration") (b := true) ⟨o, ho, hc⟩ isSubtype_stop ?_)
    exact wpAny_pure ⟨rfl, I.turned (t' := s.toks) (fun b o hb q => he' b o hb q) f0 f1 f3 f4 f5⟩
  self := fun A i s Q E st h => let ⟨⟨_, he⟩, _⟩ := st; wpAny_pyIter_enum he h
def iEnumT (K : PySem.W.Frag) (ta : TA) : TI := fun σ H R => ta σ H fun vs H1 => ∃ a xs, vs = [.ref a] ∧ ((SqL K H1 a xs ∧ R (Ite K a) H1) ∨ (SqT K H1 a xs ∧ R (IteT K a) H1))
theorem pi_enumT {X : Cx} {e : Expr} {ta : TA} {p pos tpos : Pos} {elts : List Expr} {kk : Nat} (hg : Gl X "enumerate") (hm : X.mg "enumerate" = none) (ha : PA X [e] ta) (hs : starEach [e] X.env = [(false, eval e X.env)]) :
    PI X (.Tuple elts kk tpos) (.Call (.Name "enumerate" p) [e] [] pos) (iEnumT X.K ta) := by
  refine ⟨fun pins s σ H R I h => ?_⟩
  refine PyProof.Rows.Call_ (ld_blt I hg hm PyProof.Rows.boot_enumerate (PyProof.Rows.callWith_type1 (thn (ha.run pos pins s σ H _ I h) fun us s1 ⟨vs, H1, I1, r1, q1⟩ => ?_) hs rfl))
  obtain ⟨a, xs, ex, q1⟩ := q1
  subst ex
  cases r1 with
  | cons r rr =>
    cases rr
    cases r
    have fin2 : ∀ b, b ∈ [s1.heap.objs.size + 1, s1.heap.objs.size] → FpOk X pins H1 b := fun b hb => by
      have e' : b = s1.heap.objs.size + 1 ∨ b = s1.heap.objs.size := by simpa using hb
      have hle : s1.heap.objs.size ≤ b := by
        rcases e' with z | z
        · rw [z]; exact Nat.le_add_right _ _
        · rw [z]; exact Nat.le_refl _
      exact I1.fpOk hle (I1.hok.fresh hle)
    rcases q1 with ⟨hq, q⟩ | ⟨hq, q⟩
    · obtain ⟨its, rv, p', hz⟩ := I1.list hq
      refine call_enumerate_list p'.isList fun h' he hit hsz hk => wpAny_pyIter_enum he ?_
      have I2 : L2.Inv X pins σ H1 { s1 with heap := h' } := I1.kept (t' := s1.toks) hk
      exact ⟨s1.heap.objs.size + 1, [s1.heap.objs.size + 1, s1.heap.objs.size], _, _, H1, rfl, I2, turn_enum a (s1.heap.objs.size + 1) s1.heap.objs.size, ⟨⟨.none, he⟩, hit, Nat.succ_ne_self _⟩, fin2, q⟩
    · obtain ⟨its, rv, p', hz⟩ := I1.tuple hq
      refine mp_call_enumT p' fun h' he hit hsz hk => wpAny_pyIter_enum he ?_
      have I2 : L2.Inv X pins σ H1 { s1 with heap := h' } := I1.kept (t' := s1.toks) hk
      exact ⟨s1.heap.objs.size + 1, [s1.heap.objs.size + 1, s1.heap.objs.size], _, _, H1, rfl, I2, turn_enumT a (s1.heap.objs.size + 1) s1.heap.objs.size, ⟨⟨.none, he⟩, hit, Nat.succ_ne_self _⟩, fin2, q⟩
end Mp
/-! The model's syntax against the own one. -/
namespace Mp
open PySem PySem.Spec L2
structure Tx where
  N : List Str
  gc : List (Str × Lit)
  fn : String → Fn → Prop
  cl : List (Str × List Str)
  mt : Str → Str → Fn → Prop
  ini : Str → Fn → Prop
/-- an attribute of a class of the text -/
def attB (T : Tx) (c f : Str) : Bool := match T.cl.lookup c with | some fs => fs.contains f | none => false
def litC : Lit → Const
  | .non => .none | .bl b => .bool b | .int i => .int i | .str x => .str (S2 x)
def litV : Lit → V
  | .non => .non | .bl b => .bl b | .int i => .int i | .str x => .str (S2 x)
def visB (sc : Scope) (x : Str) : Bool := match sc.names.lookup x with | some .local => true | some .cell => true | some .free => true | _ => false
def locB (sc : Scope) (x : Str) : Bool := match sc.names.lookup x with | some .local => true | some .cell => true | _ => false
def gliB (sc : Scope) (x : Str) : Bool := match sc.names.lookup x with | some .globalImplicit => true | _ => false
def nodbg (x : Str) : Bool := !(x == ("__debug__" : Str)) && !(x == ("__classdict__" : Str))
def BF.nm : BF → String
  | .len => "len" | .abs => "abs" | .int => "int" | .str => "str" | .tuple => "tuple" | .list => "list" | .min => "min" | .all => "all" | .any => "any" | .isi _ => "isinstance" | .sorted => "sorted" | .items => "list"
def ML.nm : ML → String
  | .append => "append" | .extend => "extend" | .update => "update" | .count => "count" | .index => "index" | .pop => "pop"
def recvOk : Expr → Bool
  | .Call (.Name _ _) [] [] _ => false
  | _ => true
/-- the forms that stand anywhere -/
def good : Expr → Bool
  | .BoolOp .. => true | .BinOp .. => true | .UnaryOp .. => true | .IfExp .. => true | .Dict .. => true | .ListComp .. => true | .DictComp .. => true | .Compare .. => true
  | .Call .. => true | .Constant .. => true | .Subscript .. => true | .Name .. => true | .List .. => true | .Tuple .. => true | .Attribute .. => true
  | _ => false
def chkT (T : Tx) : Tg → Scope → Expr ⊕ List Expr → Bool
  | .name i, sc, e => match e with
    | .inl (.Name x _) => decide (T.N[i]? = some x) && locB sc x
    | _ => false
  | .nil, sc, e => match e with
    | .inl (.Tuple es _ _) => es.isEmpty
    | .inr es => es.isEmpty
    | _ => false
  | .cons t r, sc, e => match e with
    | .inl (.Tuple (e :: es) _ _) => chkT T t sc (.inl e) && chkT T r sc (.inr es)
    | .inr (e :: es) => chkT T t sc (.inl e) && chkT T r sc (.inr es)
    | _ => false
def tgs : Tg → List Nat
  | .name i => [i]
  | .nil => []
  | .cons t r => tgs t ++ tgs r
def isTup : Expr → Bool
  | .Tuple .. => true
  | _ => false
def ownN (T : Tx) (own : List Nat) : List (Str × Nat) := own.map fun i => (T.N.getD i Str.empty, i)
mutual
def chkE (T : Tx) : E → Scope → Expr → Bool
  | .lit l, sc, e => match e with
    | .Constant c _ _ => decide (litC l = c)
    | .Name x _ => gliB sc x && nodbg x && (match T.gc.lookup x with | some l' => decide (l' = l) | none => false)
    | _ => false
  | .var i, sc, e => match e with
    | .Name x _ => decide (T.N[i]? = some x) && visB sc x && nodbg x
    | _ => false
  | .bin op a b, sc, e => match e with
    | .BinOp a' o b' _ => decide (op.py = o) && chkE T a sc a' && chkE T b sc b'
    | _ => false
  | .neg a, sc, e => match e with
    | .UnaryOp .USub a' _ => chkE T a sc a'
    | _ => false
  | .not a, sc, e => match e with
    | .UnaryOp .Not a' _ => chkE T a sc a'
    | _ => false
  | .and a b, sc, e => match e with
    | .BoolOp .And [a', b'] _ => chkE T a sc a' && chkE T b sc b'
    | .BoolOp .And (a' :: b' :: c' :: r) pos => chkE T a sc a' && chkE T b sc (.BoolOp .And (b' :: c' :: r) pos)
    | _ => false
  | .or a b, sc, e => match e with
    | .BoolOp .Or [a', b'] _ => chkE T a sc a' && chkE T b sc b'
    | .BoolOp .Or (a' :: b' :: c' :: r) pos => chkE T a sc a' && chkE T b sc (.BoolOp .Or (b' :: c' :: r) pos)
    | _ => false
  | .cmp op a b, sc, e => match e with
    | .Compare a' [o] [b'] _ => decide (op.py = o) && chkE T a sc a' && chkE T b sc b'
    | _ => false
  | .chain op op2 a b c, sc, e => match e with
    | .Compare a' [o, o2] [b', c'] _ => decide (op.py = o) && decide (op2.py = o2) && chkE T a sc a' && chkE T b sc b' && chkE T c sc c'
    | _ => false
  | .ite c a b, sc, e => match e with
    | .IfExp c' a' b' _ => chkE T c sc c' && chkE T a sc a' && chkE T b sc b'
    | _ => false
  | .tup es, sc, e => match e with
    | .Tuple es' _ _ => chkA T es sc es'
    | _ => false
  | .lst es, sc, e => match e with
    | .List es' _ => chkA T es sc es'
    | _ => false
  | .dnew, sc, e => match e with
    | .Dict [] [] _ => true
    | _ => false
  | .dnewT, sc, e => match e with
    | .Dict [] [] _ => true
    | _ => false
  | .ddisT k v, sc, e => match e with
    | .Dict [some k'] [v'] _ => chkE T k sc k' && chkE T v sc v'
    | _ => false
  | .fld c o f, sc, e => match e with
    | .Attribute o' f' _ => decide (f' = f) && attB T c f && recvOk o' && chkE T o sc o'
    | _ => false
  | .new c _ es, sc, e => match e with
    | .Call (.Name x' _) es' [] _ => decide (x' = c) && gliB sc x' && nodbg x' && chkA T es sc es'
    | _ => false
  | .mcall c m _ o es, sc, e => match e with
    | .Call (.Attribute o' m' apos) es' [] cpos => decide (m' = m) && (apos.endLine == cpos.line) && recvOk o' && decide (es'.length < 29) && chkE T o sc o' && chkA T es sc es'
    | _ => false
  | .idx a i, sc, e => match e with
    | .Subscript a' i' _ => chkE T a sc a' && chkE T i sc i'
    | _ => false
  | .slc a lo hi, sc, e => match e with
    | .Subscript a' (.Slice lo' hi' none _) _ => chkE T a sc a' && chkO T lo sc lo' && chkO T hi sc hi'
    | _ => false
  | .call x _ es, sc, e => match e with
    | .Call (.Name x' _) es' [] _ => decide (x' = (x : Str)) && gliB sc x' && nodbg x' && chkA T es sc es'
    | _ => false
  | .bf f es, sc, e => match e with
    | .Call (.Name x' _) es' [] _ => decide (x' = (f.nm : Str)) && gliB sc x' && (match f with
      | .isi c => (match es' with
        | [a', .Name t _] => decide (t = (c.nm : Str)) && gliB sc t && !decide (c = .non) && chkA T es sc [a']
        | _ => false)
      | .items => (match es', es with
        | [.Call (.Attribute o nm apos) [] [] cpos], .cons m .nil => decide (nm = ("items" : Str)) && (apos.endLine == cpos.line) && recvOk o && chkE T m sc o
        | _, _ => false)
      | _ => (match es' with | [_] => chkA T es sc es' | _ => false))
    | _ => false
  | .meth m o es, sc, e => match e with
    | .Call (.Attribute o' nm apos) es' [] cpos => decide (nm = (m.nm : Str)) && (apos.endLine == cpos.line) && recvOk o' && chkE T o sc o' && (match es' with | [_] => decide (m ≠ .pop) && chkA T es sc es' | [] => decide (m = .pop) && chkA T es sc es' | _ => false)
    | _ => false
  | .dget o k d, sc, e => match e with
    | .Call (.Attribute o' nm apos) (k' :: d') [] cpos => decide (nm = ("get" : Str)) && (apos.endLine == cpos.line) && recvOk o' && chkE T o sc o' && chkE T k sc k' && decide (d'.length ≤ 1) && chkA T d sc d'
    | _ => false
  | .comp own t it c e1, sc, e => match e with
    | .ListComp e' [⟨tg, iter, ifs, 0⟩] scope _ => chkI T it sc tg iter && good iter && blkC T.N sc scope (ownN T own) && (tgs t).all own.contains && chkT T t scope (.inl tg) && chkC T c (relS scope sc) ifs && chkE T e1 (relS scope sc) e'
    | _ => false
  | .dcomp own t it c k v, sc, e => match e with
    | .DictComp k' v' [⟨tg, iter, ifs, 0⟩] scope _ => chkI T it sc tg iter && good iter && blkC T.N sc scope (ownN T own) && (tgs t).all own.contains && chkT T t scope (.inl tg) && chkC T c (relS scope sc) ifs && chkE T k (relS scope sc) k' && chkE T v (relS scope sc) v'
    | _ => false
def chkO (T : Tx) : Op → Scope → Option Expr → Bool
  | .none, _, none => true
  | .some e, sc, some e' => chkE T e sc e'
  | _, _, _ => false
def chkC (T : Tx) : Op → Scope → List Expr → Bool
  | .none, _, [] => true
  | .some e, sc, [e'] => chkE T e sc e'
  | _, _, _ => false
def chkA (T : Tx) : As → Scope → List Expr → Bool
  | .nil, _, [] => true
  | .cons e es, sc, e' :: es' => chkE T e sc e' && chkA T es sc es'
  | _, _, _ => false
def chkI (T : Tx) : It → Scope → Expr → Expr → Bool
  | .each e, sc, _, iter => chkE T e sc iter
  | .rng1 a, sc, _, iter => match iter with
    | .Call (.Name x _) [a'] [] _ => decide (x = ("range" : Str)) && gliB sc x && chkE T a sc a'
    | _ => false
  | .rng2 a b, sc, _, iter => match iter with
    | .Call (.Name x _) [a', b'] [] _ => decide (x = ("range" : Str)) && gliB sc x && chkE T a sc a' && chkE T b sc b'
    | _ => false
  | .enum e, sc, tg, iter => match iter with
    | .Call (.Name x _) [e'] [] _ => decide (x = ("enumerate" : Str)) && gliB sc x && isTup tg && chkE T e sc e'
    | _ => false
  | .zip a b, sc, tg, iter => match iter with
    | .Call (.Name x _) [a', b'] [] _ => decide (x = ("zip" : Str)) && gliB sc x && isTup tg && chkE T a sc a' && chkE T b sc b'
    | _ => false
end
mutual
/-- each call's def is the one that the names tell -/
def CallsE (T : Tx) : E → Prop
  | .lit _ | .var _ | .dnew | .dnewT => True
  | .neg a | .not a => CallsE T a
  | .bin _ a b | .and a b | .or a b | .cmp _ a b | .idx a b | .ddisT a b => CallsE T a ∧ CallsE T b
  | .chain _ _ a b c | .ite a b c => CallsE T a ∧ CallsE T b ∧ CallsE T c
  | .tup es | .lst es | .bf _ es => CallsA T es
  | .slc a lo hi => CallsE T a ∧ CallsO T lo ∧ CallsO T hi
  | .call x F es => T.fn x F ∧ CallsA T es
  | .meth _ o es => CallsE T o ∧ CallsA T es
  | .dget o k d => CallsE T o ∧ CallsE T k ∧ CallsA T d
  | .fld _ o _ => CallsE T o
  | .new c F es => T.ini c F ∧ CallsA T es
  | .mcall c m F o es => T.mt c m F ∧ CallsE T o ∧ CallsA T es
  | .comp _ _ it c e => CallsI T it ∧ CallsO T c ∧ CallsE T e
  | .dcomp _ _ it c k v => CallsI T it ∧ CallsO T c ∧ CallsE T k ∧ CallsE T v
def CallsO (T : Tx) : Op → Prop
  | .none => True
  | .some e => CallsE T e
def CallsA (T : Tx) : As → Prop
  | .nil => True
  | .cons e es => CallsE T e ∧ CallsA T es
def CallsI (T : Tx) : It → Prop
  | .each e | .rng1 e | .enum e => CallsE T e
  | .rng2 a b | .zip a b => CallsE T a ∧ CallsE T b
end
theorem good_of {T : Tx} {m : E} {sc : Scope} {e : Expr} (h : chkE T m sc e = true) : good e = true := by
  cases m <;> (unfold chkE at h; split at h) <;> first | rfl | (cases h; done)
section
variable {e : Expr} (g : good e = true)
include g
theorem good_star (es : List Expr) (env : Env) : starEach (e :: es) env = (false, eval e env) :: starEach es env := by
  cases e <;> first | rfl | (cases g; done)
theorem good_mark (op : CmpOp) : behindInMarks op e = false := by
  cases e <;> first | rfl | (cases g; done)
theorem good_ix : PlainIx e := by
  intro o i
  cases e <;> first | rfl | (cases g; done)
theorem good_fold (env : Env) : ∀ x, foldedSetIterable e env x = pure x := by
  intro x
  cases e <;> first | rfl | (cases g; done)
end
theorem recv_base {e : Expr} (h : recvOk e = true) (nm : Str) (env : Env) (whole : Sem Value) : attributeBase e nm env whole = whole := by
  unfold attributeBase
  split
  · cases h
  · rfl
end Mp
/-! Expressions: the own wp against the model. -/
namespace Mp
open PySem PySem.Spec L2
def biNames : List Str := ["len", "abs", "int", "str", "tuple", "list", "min", "all", "any", "isinstance", "bool", "dict", "range", "enumerate", "zip", "sorted", "sum", "max"]
/-- the context is right for a text -/
structure Cor (T : Tx) (Ec : XK) (X : Cx) : Prop where
  N : X.N = T.N
  nd : X.N.Nodup
  calm : X.calm = true
  hu : X.A.units + 200 < cLine
  gc : ∀ x l, T.gc.lookup x = some l → ∃ u, X.mg x = some u ∧ RelV (litV l) u
  bi : ∀ x ∈ biNames, X.mg x = none
  fn : ∀ (x : String) F, T.fn x F → ∃ CX k f fd ps, FnOk X.prog X.w (XF X) X.mg X.base CX k f fd ps (spF (XF X) F) ∧ Room k X.A ∧ X.mg x = some (.ref f) ∧ PySem.W.keepIn (XF X) (.ref f) = true ∧ Binds (XF X) fd ps [] ∧ Passes CX X Ec ∧ ∀ X', Passes CX X' E0
  cl : ∀ c f, attB T c f = true → ∃ C, ClsN (XF X) c C ∧ Cls X.K C ∧ NoAttr X.K C f
  mt : ∀ c m F, T.mt c m F → ∃ CX k f fd ps C, ClsN (XF X) c C ∧ Cls X.K C ∧ Meth X.K C m f ∧ FnOk X.prog X.w (XF X) X.mg X.base CX k f fd ps (spF (XF X) F) ∧ Room k X.A ∧ Binds (XF X) fd ps [] ∧ Passes CX X Ec ∧ ∀ X', Passes CX X' E0
  ini : ∀ c F, T.ini c F → ∃ CX k f fd ps C, ClsN (XF X) c C ∧ Mk X.K C f ∧ X.mg c = some (.ref C) ∧ FnOk X.prog X.w (XF X) X.mg X.base CX k f fd ps (spF (XF X) F) ∧ Room (k + 1) X.A ∧ Binds (XF X) fd ps [] ∧ Passes CX X Ec ∧ ∀ X', Passes CX X' E0
section
variable {T : Tx} {Ec : XK} {X : Cx}
theorem nodbg_1 {x : Str} (h : nodbg x = true) : (x == ("__debug__" : Str)) = false ∧ (x == ("__classdict__" : Str)) = false := by
  unfold nodbg at h
  simp only [Bool.and_eq_true, Bool.not_eq_true'] at h
  exact h
theorem gli_1 {sc : Scope} {x : Str} (h : gliB sc x = true) : sc.names.lookup x = some .globalImplicit := by
  unfold gliB at h
  split at h
  · assumption
  · cases h
theorem vis_1 {sc : Scope} {x : Str} (h : visB sc x = true) : Vis sc x := by
  unfold visB at h
  split at h
  · exact .inl (by assumption)
  · exact .inr (.inl (by assumption))
  · exact .inr (.inr (by assumption))
  · cases h
theorem loc_1 {sc : Scope} {x : Str} (h : locB sc x = true) : Loc sc x := by
  unfold locB at h
  split at h
  · exact .inl (by assumption)
  · exact .inr (by assumption)
  · cases h

theorem asInt_inv {d : D} {Q : Int → Prop} (h : asInt d Q) : ∃ i, d = .int i ∧ Q i := by
  unfold asInt at h
  split at h
  · exact ⟨_, rfl, h⟩
  · exact h.elim

/-! ### one rule a form -/
theorem s_lit {l : Lit} {c : Const} {k : Nat} {pos : Pos} (h : litC l = c) : PE X (.Constant c k pos) (TEd (XF X) Ec (.lit l)) := by
  subst h
  have r : ∀ H, Rep (XF X) H l.d (litV l) := fun H => by cases l <;> first | exact .non | exact .bl _ | exact .int _ | exact .str _
  have p : PE X (.Constant (litC l) k pos) (tC (litV l)) := by
    cases l
    · exact pe_non
    · exact pe_bl
    · exact pe_int
    · exact pe_str
  exact PE.imp p fun σ H Q ⟨σd, h, Qd, Xd, er, hr, w, n, x⟩ => n _ _ _ _ w (r H) hr (Tst.refl _)
theorem s_gc {l : Lit} {x : Str} {pos : Pos} {u : Value} (hg : Gl X x) (hm : X.mg x = some u) (r : RelV (litV l) u) (hd : (x == ("__debug__" : Str)) = false) : PE X (.Name x pos) (TEd (XF X) Ec (.lit l)) := by
  have r' : ∀ H, Rep (XF X) H l.d (litV l) := fun H => by cases l <;> first | exact .non | exact .bl _ | exact .int _ | exact .str _
  exact PE.imp (pe_glob hg hm r hd) fun σ H Q ⟨σd, h, Qd, Xd, er, hr, w, n, x⟩ => n _ _ _ _ w (r' H) hr (Tst.refl _)
theorem s_var {i : Nat} {x : Str} {pos : Pos} (hN : X.N[i]? = some x) (hv : Vis X.env.scope x) (hd : (x == ("__debug__" : Str)) = false) (hcd : (x == ("__classdict__" : Str)) = false) : PE X (.Name x pos) (TEd (XF X) Ec (.var i)) :=
  PE.imp (pe_var hN hv hd hcd) fun σ H Q ⟨σd, h, Qd, Xd, er, hr, w, n, x⟩ => by
    rw [wpE] at w
    obtain ⟨d, e, q⟩ := w
    obtain ⟨v, e1, r⟩ := er.at_ i d e
    exact ⟨v, e1, n _ _ _ _ q r hr (Tst.refl _)⟩
variable {a b c : Expr} {ma mb mc : E} {pos : Pos}
theorem two {σ : St} {H : Hp} {σd : En} {h : Hh} {Xd : PX} {R : D → D → Hh → Prop} {Q : V → V → Hp → Prop} (er : ERep (XF X) H σd σ) (hr : HRep (XF X) h H) (x : XCl (XF X) Ec Xd H) (w : wpE ma σd h Xd fun x h1 => wpE mb σd h1 Xd fun y h2 => R x y h2)
    (f : ∀ dx dy h2 x y H2, Tst H H2 → Rep (XF X) H2 dx x → Rep (XF X) H2 dy y → HRep (XF X) h2 H2 → R dx dy h2 → Q x y H2) : TEd (XF X) Ec ma σ H fun x H1 => TEd (XF X) Ec mb σ H1 fun y H2 => Q x y H2 :=
  ⟨σd, h, _, Xd, er, hr, w, fun d1 h1 v1 H1 q1 r1 hr1 t1 => ⟨σd, h1, _, Xd, er.mono t1, hr1, q1, fun d2 h2 v2 H2 q2 r2 hr2 t2 => f d1 d2 h2 v1 v2 H2 (t1.trans t2) (r1.mono t2) r2 hr2 q2, x.mono t1⟩, x⟩
theorem s_bin {op : BOp} (ha : PE X a (TEd (XF X) Ec ma)) (hb : PE X b (TEd (XF X) Ec mb)) : PE X (.BinOp a op.py b pos) (TEd (XF X) Ec (.bin op ma mb)) :=
  PE.imp (pe_op (ob_ok op) ha hb) fun σ H Q ⟨σd, h, Qd, Xd, er, hr, w, n, x⟩ => by
    rw [wpE] at w
    exact two er hr x w fun dx dy h2 x y H2 t r1 r2 hr2 q => ⟨dx, dy, h2, Qd, r1, r2, hr2, q, n.mono t⟩
theorem s_neg (ha : PE X a (TEd (XF X) Ec ma)) : PE X (.UnaryOp .USub a pos) (TEd (XF X) Ec (.neg ma)) :=
  PE.imp (pe_un un_neg ha) fun σ H Q ⟨σd, h, Qd, Xd, er, hr, w, n, x⟩ => by
    rw [wpE] at w
    refine ⟨σd, h, _, Xd, er, hr, w, fun d1 h1 v1 H1 q1 r1 hr1 t1 => ?_, x⟩
    obtain ⟨i, rfl, q⟩ := asInt_inv q1
    cases r1
    exact ⟨_, rfl, n _ _ _ _ q (.int _) hr1 t1⟩
theorem s_not (ha : PE X a (TEd (XF X) Ec ma)) : PE X (.UnaryOp .Not a pos) (TEd (XF X) Ec (.not ma)) :=
  PE.imp (pe_notT ha) fun σ H Q ⟨σd, h, Qd, Xd, er, hr, w, n, x⟩ => by
    rw [wpE] at w
    refine ⟨σd, h, _, Xd, er, hr, w, fun d1 h1 v1 H1 q1 r1 hr1 t1 => ?_, x⟩
    obtain ⟨t, et, q⟩ := q1
    exact ⟨t, tru_of hr1 r1 et, n _ _ _ _ q (.bl _) hr1 t1⟩
theorem s_and {r : List Expr} (ha : PE X a (TEd (XF X) Ec ma)) (hb : PE X (.BoolOp .And (b :: r) pos) (TEd (XF X) Ec mb)) : PE X (.BoolOp .And (a :: b :: r) pos) (TEd (XF X) Ec (.and ma mb)) :=
  PE.imp (pe_andT ha hb) fun σ H Q ⟨σd, h, Qd, Xd, er, hr, w, n, x⟩ => by
    rw [wpE] at w
    refine ⟨σd, h, _, Xd, er, hr, w, fun d1 h1 v1 H1 q1 r1 hr1 t1 => ?_, x⟩
    obtain ⟨t, et, q⟩ := q1
    refine ⟨t, tru_of hr1 r1 et, ?_⟩
    cases t with
    | true => exact ⟨σd, h1, Qd, Xd, er.mono t1, hr1, q, n.mono t1, x.mono t1⟩
    | false => exact n _ _ _ _ q r1 hr1 t1
theorem s_or {r : List Expr} (ha : PE X a (TEd (XF X) Ec ma)) (hb : PE X (.BoolOp .Or (b :: r) pos) (TEd (XF X) Ec mb)) : PE X (.BoolOp .Or (a :: b :: r) pos) (TEd (XF X) Ec (.or ma mb)) :=
  PE.imp (pe_orT ha hb) fun σ H Q ⟨σd, h, Qd, Xd, er, hr, w, n, x⟩ => by
    rw [wpE] at w
    refine ⟨σd, h, _, Xd, er, hr, w, fun d1 h1 v1 H1 q1 r1 hr1 t1 => ?_, x⟩
    obtain ⟨t, et, q⟩ := q1
    refine ⟨t, tru_of hr1 r1 et, ?_⟩
    cases t with
    | true => exact n _ _ _ _ q r1 hr1 t1
    | false => exact ⟨σd, h1, Qd, Xd, er.mono t1, hr1, q, n.mono t1, x.mono t1⟩
theorem s_cmp {op : COp} (hu : X.A.units + 200 < cLine) (ha : PE X a (TEd (XF X) Ec ma)) (hb : PE X b (TEd (XF X) Ec mb)) (g : good b = true) : PE X (.Compare a [op.py] [b] pos) (TEd (XF X) Ec (.cmp op ma mb)) :=
  PE.imp (pe_cmpR (oc_ok (by omega) op) ha hb (good_mark g _)) fun σ H Q ⟨σd, h, Qd, Xd, er, hr, w, n, x⟩ => by
    rw [wpE] at w
    exact two er hr x w fun dx dy h2 x y H2 t r1 r2 hr2 q => ⟨dx, dy, h2, Qd, r1, r2, hr2, q, n.mono t⟩
/-- comparisons give truth values -/
theorem opC_bl {op : COp} {x y : D} {h : Hh} {Q : PV} (w : opC op x y h Q) : opC op x y h fun d h' => (∃ b, d = .bl b) ∧ Q d h' := by
  unfold opC at w ⊢
  split at w
  · obtain ⟨x', y', e1, e2, f1, f2, q⟩ := w; exact ⟨x', y', e1, e2, f1, f2, ⟨_, rfl⟩, q⟩
  · obtain ⟨x', y', e1, e2, f1, f2, q⟩ := w; exact ⟨x', y', e1, e2, f1, f2, ⟨_, rfl⟩, q⟩
  · exact ⟨⟨_, rfl⟩, w⟩
  · exact ⟨w.1, w.2.1, w.2.2.1, w.2.2.2.1, ⟨_, rfl⟩, w.2.2.2.2⟩
  · exact ⟨⟨_, rfl⟩, w⟩
  · exact ⟨⟨_, rfl⟩, w⟩
  · exact ⟨⟨_, rfl⟩, w⟩
  · unfold memD at w ⊢
    split at w
    · split at w
      · exact ⟨w.1, ⟨_, rfl⟩, w.2⟩
      · exact ⟨w.1, ⟨_, rfl⟩, w.2⟩
      · obtain ⟨x', xs', g1, g2, g3, g4, q⟩ := w; exact ⟨x', xs', g1, g2, g3, g4, ⟨_, rfl⟩, q⟩
      · exact w.elim
    · exact w.elim
  · unfold memD at w ⊢
    split at w
    · split at w
      · exact ⟨w.1, ⟨_, rfl⟩, w.2⟩
      · exact ⟨w.1, ⟨_, rfl⟩, w.2⟩
      · obtain ⟨x', xs', g1, g2, g3, g4, q⟩ := w; exact ⟨x', xs', g1, g2, g3, g4, ⟨_, rfl⟩, q⟩
      · exact w.elim
    · exact w.elim
  · exact ⟨⟨_, rfl⟩, w⟩
  · exact ⟨⟨_, rfl⟩, w⟩
  · exact ⟨⟨_, rfl⟩, w⟩
  · exact ⟨⟨_, rfl⟩, w⟩
  · exact w.elim
theorem t_cmp {op : COp} (hu : X.A.units + 200 < cLine) (ha : PE X a (TEd (XF X) Ec ma)) (hb : PE X b (TEd (XF X) Ec mb)) (g : good b = true) : PT X (.Compare a [op.py] [b] pos) (TTd (XF X) Ec (.cmp op ma mb)) :=
  PT.imp (pt_cmpR (oc_ok (by omega) op) ha hb (good_mark g _)) fun σ H Q ⟨σd, h, Qd, Xd, er, hr, w, n, x⟩ => by
    rw [wpE] at w
    refine two er hr x w fun dx dy h2 x y H2 t r1 r2 hr2 q => ⟨dx, dy, h2, _, r1, r2, hr2, opC_bl q, fun d h3 v H3 q3 r3 hr3 t3 => ?_⟩
    obtain ⟨⟨z, rfl⟩, q3⟩ := q3
    obtain ⟨t', et, q'⟩ := n _ _ _ q3 hr3 (t.trans t3)
    cases et
    cases r3
    exact ⟨_, rfl, q'⟩
theorem s_chain {op op2 : COp} (hu : X.A.units + 200 < cLine) (ha : PE X a (TEd (XF X) Ec ma)) (hb : PE X b (TEd (XF X) Ec mb)) (hc : PE X c (TEd (XF X) Ec mc)) (g : good c = true) : PE X (.Compare a [op.py, op2.py] [b, c] pos) (TEd (XF X) Ec (.chain op op2 ma mb mc)) :=
  PE.imp (pe_chain (oc_ok (by omega) op) (oc_ok (by omega) op2) ha hb hc (good_mark g _)) fun σ H Q ⟨σd, h, Qd, Xd, er, hr, w, n, x⟩ => by
    rw [wpE] at w
    refine two er hr x w fun dx dy h2 vx vy H2 t r1 r2 hr2 q => ⟨dx, dy, h2, _, r1, r2, hr2, q, fun d h3 v H3 q3 r3 hr3 t3 => ?_⟩
    obtain ⟨k, rfl, q3⟩ := q3
    cases r3
    refine ⟨k, rfl, ?_⟩
    cases k with
    | true => exact ⟨σd, h3, _, Xd, er.mono (t.trans t3), hr3, q3, fun d4 h4 v4 H4 q4 r4 hr4 t4 => ⟨dy, d4, h4, Qd, r2.mono (t3.trans t4), r4, hr4, q4, n.mono (t.trans (t3.trans t4))⟩, x.mono (t.trans t3)⟩
    | false => exact n _ _ _ _ q3 (.bl _) hr3 (t.trans t3)
theorem t_chain {op op2 : COp} (hu : X.A.units + 200 < cLine) (ha : PE X a (TEd (XF X) Ec ma)) (hb : PE X b (TEd (XF X) Ec mb)) (hc : PE X c (TEd (XF X) Ec mc)) (g : good c = true) : PT X (.Compare a [op.py, op2.py] [b, c] pos) (TTd (XF X) Ec (.chain op op2 ma mb mc)) :=
  PT.imp (pt_chain (oc_ok (by omega) op) (oc_ok (by omega) op2) ha hb hc (good_mark g _)) fun σ H Q ⟨σd, h, Qd, Xd, er, hr, w, n, x⟩ => by
    rw [wpE] at w
    refine two er hr x w fun dx dy h2 vx vy H2 t r1 r2 hr2 q => ⟨dx, dy, h2, _, r1, r2, hr2, q, fun d h3 v H3 q3 r3 hr3 t3 => ?_⟩
    obtain ⟨k, rfl, q3⟩ := q3
    cases r3
    refine ⟨k, rfl, ?_⟩
    cases k with
    | true =>
      refine ⟨σd, h3, _, Xd, er.mono (t.trans t3), hr3, q3, fun d4 h4 v4 H4 q4 r4 hr4 t4 => ⟨dy, d4, h4, _, r2.mono (t3.trans t4), r4, hr4, opC_bl q4, fun d5 h5 v5 H5 q5 r5 hr5 t5 => ?_⟩, x.mono (t.trans t3)⟩
      obtain ⟨⟨z, rfl⟩, q5⟩ := q5
      obtain ⟨t', et, q'⟩ := n _ _ _ q5 hr5 (t.trans (t3.trans (t4.trans t5)))
      cases et
      cases r5
      exact ⟨_, rfl, q'⟩
    | false =>
      obtain ⟨t', et, q'⟩ := n _ _ _ q3 hr3 (t.trans t3)
      cases et
      exact ⟨_, rfl, q'⟩
theorem s_ite (hc : PT X c (TTd (XF X) Ec mc)) (ha : PE X a (TEd (XF X) Ec ma)) (hb : PE X b (TEd (XF X) Ec mb)) : PE X (.IfExp c a b pos) (TEd (XF X) Ec (.ite mc ma mb)) :=
  PE.imp (pe_ifExp hc ha hb) fun σ H Q ⟨σd, h, Qd, Xd, er, hr, w, n, x⟩ => by
    rw [wpE] at w
    refine ⟨σd, h, _, Xd, er, hr, w, fun d h1 H1 q hr1 t1 => ?_, x⟩
    obtain ⟨t, et, q⟩ := q
    refine ⟨t, et, ?_⟩
    cases t with
    | true => exact ⟨σd, h1, Qd, Xd, er.mono t1, hr1, q, n.mono t1, x.mono t1⟩
    | false => exact ⟨σd, h1, Qd, Xd, er.mono t1, hr1, q, n.mono t1, x.mono t1⟩
theorem s_tup {es : List Expr} {ms : As} {k : Nat} (ha : PA X es (TAd (XF X) Ec ms)) : PE X (.Tuple es k pos) (TEd (XF X) Ec (.tup ms)) :=
  PE.imp (pe_tup ha) fun σ H Q ⟨σd, h, Qd, Xd, er, hr, w, n, x⟩ => by
    rw [wpE] at w
    refine ⟨σd, h, _, Xd, er, hr, w, fun ds h1 vs H1 q rs hr1 t1 => ⟨by rw [← rs.length, sz_eq]; exact q.1, fun p hp => ?_⟩, x⟩
    exact n _ _ _ _ q.2 (rep_tup rs hp) (hr1.new hp) (t1.trans (tst_new hp))
theorem s_lst {es : List Expr} {ms : As} (ha : PA X es (TAd (XF X) Ec ms)) : PE X (.List es pos) (TEd (XF X) Ec (.lst ms)) :=
  PE.imp (pe_lst ha) fun σ H Q ⟨σd, h, Qd, Xd, er, hr, w, n, x⟩ => by
    rw [wpE] at w
    refine ⟨σd, h, _, Xd, er, hr, w, fun ds h1 vs H1 q rs hr1 t1 => ⟨by rw [← rs.length, sz_eq]; exact q.1, fun p hp => ?_⟩, x⟩
    exact n _ _ _ _ (q.2 p (hr1.fresh hp)) (.ref p) (lst_mk hr1 rs hp) (t1.trans (tst_new hp))
theorem s_dnew : PE X (.Dict [] [] pos) (TEd (XF X) Ec .dnew) :=
  PE.imp pe_dnewK fun σ H Q ⟨σd, h, Qd, Xd, er, hr, w, n, x⟩ => by
    rw [wpE] at w
    intro p hp
    exact n _ _ _ _ (w p (hr.fresh hp)) (.ref p) (hr.mk hp ⟨[], upd_same, .nil⟩) (tst_new hp)
theorem s_idx (hu : X.A.units + 200 < cLine) (ha : PE X a (TEd (XF X) Ec ma)) (hb : PE X b (TEd (XF X) Ec mb)) (g : good b = true) : PE X (.Subscript a b pos) (TEd (XF X) Ec (.idx ma mb)) :=
  PE.imp (pe_ix (ox_ok (by omega)) ha hb (good_ix g)) fun σ H Q ⟨σd, h, Qd, Xd, er, hr, w, n, x⟩ => by
    rw [wpE] at w
    exact two er hr x w fun dx dy h2 x y H2 t r1 r2 hr2 q => ⟨dx, dy, h2, Qd, r1, r2, hr2, q, n.mono t⟩
/-- a part of a slice -/
def TOd (K : Frag) (Ec : XK) (o : Op) : TO := fun σ H Q => ∃ σd h, ∃ (Qd : Option Int → Hh → Prop), ∃ Xd, ERep K H σd σ ∧ HRep K h H ∧ wpO o σd h Xd Qd ∧ (∀ i h' H', Qd i h' → HRep K h' H' → Tst H H' → Q i H') ∧ XCl K Ec Xd H
theorem PO.imp {X : Cx} {e : Option Expr} {t t' : TO} (p : PO X e t) (h : ∀ σ H Q, t' σ H Q → t σ H Q) : PO X e t' := ⟨fun pins s σ H Q I q => p.run pins s σ H Q I (h σ H Q q)⟩
theorem o_none : PO X none (TOd (XF X) Ec .none) :=
  PO.imp po_none fun σ H Q ⟨σd, h, Qd, Xd, er, hr, w, n, x⟩ => by
    rw [wpO] at w
    exact n _ _ _ w hr (Tst.refl _)
theorem o_some (ha : PE X a (TEd (XF X) Ec ma)) : PO X (some a) (TOd (XF X) Ec (.some ma)) :=
  PO.imp (po_some ha) fun σ H Q ⟨σd, h, Qd, Xd, er, hr, w, n, x⟩ => by
    rw [wpO] at w
    refine ⟨σd, h, _, Xd, er, hr, w, fun d1 h1 v1 H1 q1 r1 hr1 t1 => ?_, x⟩
    obtain ⟨i, rfl, q⟩ := asInt_inv q1
    cases r1
    exact ⟨_, rfl, n _ _ _ q hr1 t1⟩
theorem s_slc {lo hi : Option Expr} {ml mh : Op} {p2 : Pos} (ha : PE X a (TEd (XF X) Ec ma)) (hl : PO X lo (TOd (XF X) Ec ml)) (hh : PO X hi (TOd (XF X) Ec mh)) : PE X (.Subscript a (.Slice lo hi none p2) pos) (TEd (XF X) Ec (.slc ma ml mh)) :=
  PE.imp (pe_slice os_ok ha hl hh) fun σ H Q ⟨σd, h, Qd, Xd, er, hr, w, n, x⟩ => by
    rw [wpE] at w
    refine ⟨σd, h, _, Xd, er, hr, w, fun d1 h1 v1 H1 q1 r1 hr1 t1 => ⟨σd, h1, _, Xd, er.mono t1, hr1, q1, fun l h2 H2 q2 hr2 t2 => ⟨σd, h2, _, Xd, er.mono (t1.trans t2), hr2, q2, fun u h3 H3 q3 hr3 t3 => ?_, x.mono (t1.trans t2)⟩, x.mono t1⟩, x⟩
    exact ⟨d1, h3, Qd, r1.mono (t2.trans t3), hr3, q3, n.mono (t1.trans (t2.trans t3))⟩
theorem a_nil : PA X [] (TAd (XF X) Ec .nil) :=
  PA.imp pa_nil fun σ H Q ⟨σd, h, Qd, Xd, er, hr, w, n, x⟩ => by
    rw [wpA] at w
    exact n _ _ _ _ w .nil hr (Tst.refl _)
theorem a_cons {es : List Expr} {ms : As} (ha : PE X a (TEd (XF X) Ec ma)) (hs : PA X es (TAd (XF X) Ec ms)) (g : good a = true) : PA X (a :: es) (TAd (XF X) Ec (.cons ma ms)) :=
  PA.imp (pa_cons ha hs (good_star g es _)) fun σ H Q ⟨σd, h, Qd, Xd, er, hr, w, n, x⟩ => by
    rw [wpA] at w
    exact ⟨σd, h, _, Xd, er, hr, w, fun d1 h1 v1 H1 q1 r1 hr1 t1 => ⟨σd, h1, _, Xd, er.mono t1, hr1, q1, fun ds h2 vs H2 q2 rs hr2 t2 => n _ _ _ _ q2 (.cons (r1.mono t2) rs) hr2 (t1.trans t2), x.mono t1⟩, x⟩

/-! ### calls -/
theorem good_any {es : List Expr} (h : es.all good = true) (pos : Pos) (env : Env) : (backTo pos (starEach es env)).any (·.1) = false := by
  induction es with
  | nil => rfl
  | cons e es ih =>
    rw [List.all_cons, Bool.and_eq_true] at h
    rw [good_star h.1]
    show (false || (backTo pos (starEach es env)).any (·.1)) = false
    rw [ih h.2]; rfl
theorem good_few {es : List Expr} (h : es.all good = true) (pos : Pos) (env : Env) : (backTo pos (starEach es env)).all (fun x => !x.1) = true := by
  induction es with
  | nil => rfl
  | cons e es ih =>
    rw [List.all_cons, Bool.and_eq_true] at h
    rw [good_star h.1]
    show (true && (backTo pos (starEach es env)).all (fun x => !x.1)) = true
    rw [ih h.2]; rfl
theorem s_call {x : Str} {F : Fn} {es : List Expr} {ms : As} {p : Pos} {CX : CXT} {k : Nat} {f : Addr} {fd : FuncData} {ps : List Str} (G : FnOk X.prog X.w (XF X) X.mg X.base CX k f fd ps (spF (XF X) F)) (hr : Room k X.A) (hg : Gl X x) (hm : X.mg x = some (.ref f))
    (hk : PySem.W.keepIn (XF X) (.ref f) = true) (hb : Binds (XF X) fd ps []) (hx : Passes CX X Ec) (hd : (x == ("__debug__" : Str)) = false) (xs : String) (ha : PA X es (TAd (XF X) Ec ms)) (g : es.all good = true) (h0 : es = [] → ms = As.nil) :
    PE X (.Call (.Name x p) es [] pos) (TEd (XF X) Ec (.call xs F ms)) := by
  have key : ∀ σ H (Q : VK), TEd (XF X) Ec (.call xs F ms) σ H Q → tCall (spF (XF X) F) [] Ec (TAd (XF X) Ec ms) σ H Q := fun σ H Q ⟨σd, h, Qd, Xd, er, hr, w, n, x⟩ => by
    rw [wpE] at w
    refine ⟨σd, h, _, Xd, er, hr, w, fun ds h1 vs H1 q rs hr1 t1 => ?_, x⟩
    show spF (XF X) F (vs ++ []) H1 Q Ec
    rw [List.append_nil]
    exact ⟨ds, h1, Qd, Xd, rs, hr1, q, n.mono t1, x.mono t1⟩
  cases es with
  | nil =>
    obtain rfl := h0 rfl
    refine PE.imp (pe_call0 G hr hg hm hk hb .nil hx hd) fun σ H Q ⟨σd, h, Qd, Xd, er, hr, w, n, x⟩ => ?_
    rw [wpE, wpA] at w
    exact ⟨[], h, Qd, Xd, .nil, hr, w, n, x⟩
  | cons e es =>
    rw [List.all_cons, Bool.and_eq_true] at g
    exact PE.imp (pe_call G hr hg hm hk hb .nil hx ha hd (good_star g.1 _ _) (good_any g.2 _ _)) key
theorem tcb {f : BF} {ms : As} (σ : St) (H : Hp) (Q : VK) : TEd (XF X) Ec (.bf f ms) σ H Q → tCB (rF (XF X) f) (TAd (XF X) Ec ms) σ H Q := fun ⟨σd, h, Qd, Xd, er, hr, w, n, x⟩ => by
  rw [wpE] at w
  exact ⟨σd, h, _, Xd, er, hr, w, fun ds h1 vs H1 q rs hr1 t1 => ⟨ds, h1, Qd, rs, hr1, q, n.mono t1⟩, x⟩
theorem s_bfB {f : BF} {id : String} {x : Str} {e : Expr} {ms : As} {p : Pos} (hc : CallR X (.builtin id) (rF (XF X) f)) (hg : Gl X x) (hm : X.mg x = none) (hv : bootBuiltins x = some (.builtin id)) (hn : x ≠ "__name__") (hd : (x == ("__debug__" : Str)) = false)
    (ha : PA X [e] (TAd (XF X) Ec ms)) (g : good e = true) : PE X (.Call (.Name x p) [e] [] pos) (TEd (XF X) Ec (.bf f ms)) :=
  PE.imp (pe_callB hc hg hm hv ha hn hd (good_star g _ _) rfl) tcb
theorem s_bfT {f : BF} {ty : String} {x : Str} {e : Expr} {ms : As} {p : Pos} (hc : CallR X (.type ty) (rF (XF X) f)) (hg : Gl X x) (hm : X.mg x = none) (hv : bootBuiltins x = some (.type ty)) (hn : x ≠ "__name__") (hd : (x == ("__debug__" : Str)) = false)
    (ha : PA X [e] (TAd (XF X) Ec ms)) (g : good e = true) : PE X (.Call (.Name x p) [e] [] pos) (TEd (XF X) Ec (.bf f ms)) :=
  PE.imp (pe_callTy hc hg hm hv ha hn hd (good_star g _ _) rfl) tcb
theorem s_isi {c : Ty} {t : Str} {e : Expr} {m : E} {p p2 : Pos} (hg : Gl X "isinstance") (hm : X.mg "isinstance" = none) (hg2 : Gl X t) (hm2 : X.mg t = none) (hv2 : bootBuiltins t = some (.type c.nm)) (hn : t ≠ "__name__") (hd : (t == ("__debug__" : Str)) = false)
    (ha : PE X e (TEd (XF X) Ec m)) (g : good e = true) : PE X (.Call (.Name "isinstance" p) [e, .Name t p2] [] pos) (TEd (XF X) Ec (.bf (.isi c) (.cons m .nil))) := by
  have h2 : PE X (.Name t p2) (tC (.ty c.nm)) := pe_bltn hg2 hm2 hv2 rfl hn hd
  refine PE.imp (pe_callB (of_isi c) hg hm (by decide +kernel) (pa_cons ha (pa_cons h2 pa_nil rfl) (good_star g _ _)) (by decide) (by decide) (good_star g _ _) rfl) fun σ H Q ⟨σd, h, Qd, Xd, er, hr, w, n, x⟩ => ?_
  rw [wpE, wpA] at w
  refine ⟨σd, h, _, Xd, er, hr, w, fun d1 h1 v1 H1 q1 r1 hr1 t1 => ?_, x⟩
  change wpA .nil σd h1 Xd (fun ds h2 => opF (.isi c) (d1 :: ds) h2 Qd) at q1
  rw [wpA] at q1
  exact ⟨d1, v1, h1, Qd, rfl, r1, hr1, q1, n.mono t1⟩
theorem tyV_of {m : ML} {H : Hp} {h : Hh} {d : D} {v : V} (hr : HRep (XF X) h H) (r : Rep (XF X) H d v) (e : tyD h d = some m.ty) : tyV (XF X) m.ty.nm v H := by
  cases r with
  | non => cases m <;> cases e
  | bl _ => cases m <;> cases e
  | int _ => cases m <;> cases e
  | str _ => cases m <;> cases e
  | tup s q => cases m <;> cases e
  | lst s q => cases m <;> cases e
  | ref a =>
    have e' : (match h a with
      | some (.lst _) => some Ty.list
      | some (.rol _) => some .list
      | some (.dct _) => some .dict
      | _ => none) = some m.ty := e
    split at e'
    · rename_i ex
      obtain ⟨vs, e1, q⟩ := hr.l ex
      have e2 : m.ty = .list := (Option.some.inj e').symm
      rw [e2]
      exact .inl ⟨rfl, vs, SqL.of e1⟩
    · rename_i ex
      obtain ⟨vs, e1, q⟩ := hr.rl ex
      have e2 : m.ty = .list := (Option.some.inj e').symm
      rw [e2]
      exact .inl ⟨rfl, vs, e1⟩
    · rename_i ex
      obtain ⟨ks, e1, q⟩ := hr.d ex
      have e2 : m.ty = .dict := (Option.some.inj e').symm
      rw [e2]
      exact .inr (.inr (.inl ⟨rfl, .inl ⟨ks, e1⟩⟩))
    · cases e'
theorem s_meth {m : ML} {id : String} {o e : Expr} {mo me : E} {apos cpos : Pos} (pa : PlainAttrs m.ty.nm) (slot : Slot m.ty.nm (m.nm : Str) id) (hty : typeOf (.builtin id) = pure (.type "method_descriptor")) (hm : MtR X id (rM (XF X) m))
    (ho : PE X o (TEd (XF X) Ec mo)) (he : PE X e (TEd (XF X) Ec me)) (g : good e = true) (hr : recvOk o = true) (hl : (apos.endLine == cpos.line) = true) :
    PE X (.Call (.Attribute o (m.nm : Str) apos) [e] [] cpos) (TEd (XF X) Ec (.meth m mo (.cons me .nil))) := by
  have ha : PA X [e] (TAd (XF X) Ec (.cons me .nil)) := a_cons he a_nil g
  refine PE.imp (pe_bm pa slot hty hm ho ha (recv_base hr _ _ _) ?_ hl (good_star g _ _) rfl) fun σ H Q ⟨σd, h, Qd, Xd, er, hr, w, n, x⟩ => ?_
  · rw [good_star g]; rfl
  · rw [wpE] at w
    refine ⟨σd, h, _, Xd, er, hr, w, fun d1 h1 v1 H1 q1 r1 hr1 t1 => ⟨tyV_of hr1 r1 q1.1, σd, h1, _, Xd, er.mono t1, hr1, q1.2, fun ds h2 vs H2 q2 rs hr2 t2 => ?_, x.mono t1⟩, x⟩
    exact ⟨d1, ds, h2, Qd, r1.mono t2, rs, hr2, q2, n.mono (t1.trans t2)⟩
theorem key_rep {H : Hp} {a : D} {k : Key} (e : keyV a = some k) : Rep (XF X) H a (kV k) := by
  cases a <;> first | (cases e; done) | skip
  · cases e; exact .int _
  · cases e; exact .str _
theorem HRep.ext {h : Hh} {H H' : Hp} {p : Addr} {c : Cell} (hr : HRep (XF X) h H) (k : ∀ b o, H b = some o → H' b = some o) (e : CellOk (XF X) H' p c) : Tst H H' ∧ HRep (XF X) (up h p c) H' := by
  have t : Tst H H' := ⟨fun _ _ z => k _ _ z, fun _ _ _ z => k _ _ z⟩
  refine ⟨t, fun b c' q => ?_⟩
  by_cases hb : b = p
  · subst hb; rw [up_same] at q; cases q; exact e
  · rw [up_ne hb] at q
    have x := hr b c' q
    obtain ⟨ob, z⟩ := x.there
    exact x.mono t (by rw [z, k _ _ z])
theorem items_reps {H' : Hp} : ∀ {kvs : List (D × D)} {ks : List (Key × V)} {ts : List Addr}, KReps (XF X) H' kvs ks → Paired (fun (t : Addr) (q : Key × V) => H' t = some (.tup [kV q.1, q.2])) ts ks → Reps (XF X) H' (kvs.map fun q => .tup [q.1, q.2]) (ts.map V.ref)
  | _, _, _, .nil, .nil => .nil
  | _, _, _, .cons ek r rs, .cons a b => .cons (.tup (.inl (.inl a)) (.cons (key_rep ek) (.cons r .nil))) (items_reps rs b)
theorem s_items {o : Expr} {m : E} {p apos cpos : Pos} (hc : X.calm = true) (ho : PE X o (TEd (XF X) Ec m)) (hg : Gl X "list") (hm : X.mg "list" = none) (hr : recvOk o = true) (hl : (apos.endLine == cpos.line) = true) :
    PE X (.Call (.Name "list" p) [.Call (.Attribute o "items" apos) [] [] cpos] [] pos) (TEd (XF X) Ec (.bf .items (.cons m .nil))) := by
  refine PE.imp (LiI.pe_listItems hc ho hg hm (by decide +kernel) (recv_base hr _ _ _) hl) fun σ H Q ⟨σd, h, Qd, Xd, er, hr, w, n, x⟩ => ?_
  rw [wpE, wpA] at w
  refine ⟨σd, h, _, Xd, er, hr, w, fun d1 h1 v1 H1 q1 r1 hr1 t1 => ?_, x⟩
  change wpA .nil σd h1 Xd (fun ds h2 => opF .items (d1 :: ds) h2 Qd) at q1
  rw [wpA] at q1
  unfold opF at q1
  split at q1
  all_goals first | (exact False.elim q1) | contradiction | skip
  rename_i e1
  cases e1
  cases r1
  obtain ⟨kvs, e, k⟩ := q1
  obtain ⟨ks, f1, q⟩ := hr1.d e
  refine ⟨_, ks, rfl, f1, fun H' p ts k1 k2 k3 k4 k5 k6 => ?_⟩
  have t : Tst H1 H' := ⟨fun _ _ z => k1 _ _ z, fun _ _ _ z => k1 _ _ z⟩
  obtain ⟨t2, hr2⟩ := HRep.ext (c := .lst (kvs.map fun q => .tup [q.1, q.2])) hr1 k1 ⟨_, k5, items_reps (q.mono t) k6⟩
  exact n _ _ _ _ (k p (hr1.fresh k2)) (.ref p) hr2 (t1.trans t2)
theorem s_pop {o : Expr} {mo : E} {apos cpos : Pos} (ho : PE X o (TEd (XF X) Ec mo)) (hr : recvOk o = true) (hl : (apos.endLine == cpos.line) = true) :
    PE X (.Call (.Attribute o "pop" apos) [] [] cpos) (TEd (XF X) Ec (.meth .pop mo .nil)) := by
  refine PE.imp (pe_bm0 PySem.F.plainAttrs_list PySem.F.slot_list_pop PySem.F.type_list_pop om_pop ho (recv_base hr _ _ _) hl) fun σ H Q ⟨σd, h, Qd, Xd, er, hr, w, n, x⟩ => ?_
  rw [wpE] at w
  refine ⟨σd, h, _, Xd, er, hr, w, fun d1 h1 v1 H1 q1 r1 hr1 t1 => ⟨tyV_of hr1 r1 q1.1, ?_⟩, x⟩
  have q2 := q1.2
  rw [wpA] at q2
  exact ⟨d1, [], h1, Qd, r1, .nil, hr1, q2, n.mono t1⟩
theorem s_dnewT : PE X (.Dict [] [] pos) (TEd (XF X) Ec .dnewT) :=
  PE.imp pe_dnewN fun σ H Q ⟨σd, h, Qd, Xd, er, hr, w, n, x⟩ p hp hs => by
    rw [wpE] at w
    exact n _ _ _ _ (w p (hr.fresh hp)) (.ref p) (hr.mk (c := .dcT []) hp ⟨[], upd_same, .nil, hs, Nat.zero_le _, .nil⟩) (tst_new hp)
theorem s_ddisT {k v : Expr} {mk mv : E} (hu : X.A.units + 200 < cLine) (hk : PE X k (TEd (XF X) Ec mk)) (hv : PE X v (TEd (XF X) Ec mv)) : PE X (.Dict [some k] [v] pos) (TEd (XF X) Ec (.ddisT mk mv)) :=
  PE.imp (pe_ddisN (by omega) hk hv) fun σ H Q ⟨σd, h, Qd, Xd, er, hr, w, n, x⟩ p hp hs => by
    rw [wpE] at w
    have t0 : Tst H (upd H p (NO p [])) := tst_new hp
    refine ⟨σd, _, _, Xd, er.mono t0, hr.mk (c := .dcT []) hp ⟨[], upd_same, .nil, hs, Nat.zero_le _, .nil⟩, w p (hr.fresh hp), fun d1 h1 v1 H1 q1 r1 hr1 t1 => ?_, x.mono t0⟩
    refine ⟨σd, h1, _, Xd, (er.mono t0).mono t1, hr1, q1, fun d2 h2 v2 H2 q2 r2 hr2 t2 => ?_, (x.mono t0).mono t1⟩
    obtain ⟨ik, e2, q⟩ := q2
    obtain ⟨xs, f1, f2, f3, f4, f5⟩ := hr2.dt e2
    cases f2
    have r1' := r1.mono t2
    obtain ⟨b, rfl⟩ := isKeyT_ref ik r1'
    obtain ⟨nk, ek, _⟩ := isKeyT_N ik
    have wr : WrOk H2 p := .inr (.inr (.inl ⟨_, f1⟩))
    refine ⟨f1, nk, b, rfl, fun pins s σ I => nkey_is I ik r1' ek, fun u hu2 => ?_⟩
    exact n _ _ _ _ q (.ref p) (hr2.wr (c := .dcT [(d1, d2)]) wr ⟨[(nk, b, u)], upd_same, .cons ik ek (r1'.mono (tst_wr wr)) (r2.mono (tst_wr wr)) hu2 .nil, f3, (by show 1 ≤ sz; decide), by simp⟩) (((t0.trans t1).trans t2).trans (tst_wr wr))
/-- d.get(k), d.get(k, x) by values -/
theorem dget_run (hu : X.A.units + 200 < cLine) {pins : List (Addr × Obj)} {s : Shared} {σ : St} {H : Hp} {h : Hh} {dx dy : D} {zs : List D} {y : V} {vs : List V} {a : Addr} {u : Value} {us : List Value} {Qd : PV} {Q : VK} (I : Inv X pins σ H s) (hr : HRep (XF X) h H) (rx : Rep (XF X) H dx (.ref a)) (ry : Rep (XF X) H dy y) (qy : RelV y u) (rz : Reps (XF X) H zs vs) (qz : Vals vs us)
    (w : getD dx dy zs h Qd) (n : NCl (XF X) Qd Q H) : wpAny (model X.prog X.w) X.A (call (.builtin "dict.get") (.ref a :: u :: us)) (EP X pins σ Q) X.xe s := by
  unfold getD at w
  split at w
  · rename_i a'
    cases rx
    split at w
    · rename_i kvs e
      obtain ⟨hk, z, ez, k⟩ := w
      obtain ⟨ks, e1, q⟩ := hr.d e
      obtain ⟨kk, ek⟩ := isKey_keyV hk
      have ey := keyV_rep ek ry
      subst ey
      have g : DGet H a (kV kk) (valV ks kk) := DGet.k e1
      have look0 : ∀ dz vz, Rep (XF X) H dz vz → ∀ w' s', Inv X pins σ H s' → RelV ((valV ks kk).getD vz) w' → Qd ((look kvs dy).getD dz) h → EP X pins σ Q w' s' := fun dz vz rdz w' s' I' rw' qq => by
        cases ql : look kvs dy with
        | some d =>
          obtain ⟨v, g1, g2⟩ := q.look ek ql
          rw [ql] at qq
          rw [g1] at rw'
          exact ⟨v, H, I', rw', n _ _ _ _ qq g2 hr (Tst.refl _)⟩
        | none =>
          have : valV ks kk = none := by
            have h1 := q.any ek
            cases qv : valV ks kk with
            | none => rfl
            | some v =>
              rw [qv] at h1
              obtain ⟨p, hp, h2⟩ := List.any_eq_true.mp h1
              unfold Mp.look at ql
              rw [Option.map_eq_none_iff, List.find?_eq_none] at ql
              exact absurd h2 (ql p hp)
          rw [this] at rw'
          rw [ql] at qq
          exact ⟨vz, H, I', rw', n _ _ _ _ qq rdz hr (Tst.refl _)⟩
      cases rz with
      | nil =>
        cases qz; cases ez
        exact d_get1 (by omega) I g qy fun w' s' I' rw' => look0 .non .non .non w' s' I' rw' k
      | cons r1 r2 =>
        cases r2 with
        | nil =>
          cases ez
          cases qz with
          | cons q1 q2 =>
            cases q2
            exact d_get2 (by omega) I g qy q1 fun w' s' I' rw' => look0 _ _ r1 w' s' I' rw' k
        | cons _ _ => cases ez
    · rename_i kvs e
      obtain ⟨hk, z, ez, k⟩ := w
      obtain ⟨xs, e1, r, hs, hz, nd⟩ := hr.dt e
      obtain ⟨b, rfl⟩ := isKeyT_ref hk ry
      cases qy
      obtain ⟨nk, ek, _⟩ := isKeyT_N hk
      have D := dictN I e1 r nd
      have look0 : ∀ dz vz uz, Rep (XF X) H dz vz → RelV vz uz → ∀ tk, Qd ((look kvs dy).getD dz) h → EP X pins σ Q ((valueAt (pairsH xs) nk).getD uz) { s with toks := tk } := fun dz vz uz rdz ruz tk qq => by
        rw [valueAt_pairsH]
        rcases r.look ek with ⟨d, v, kb, u', g1, g2, g3, g4⟩ | ⟨g1, g2⟩
        · rw [g1] at qq
          rw [g2]
          exact ⟨v, H, I.tok _, g3, n _ _ _ _ qq g4 hr (Tst.refl _)⟩
        · rw [g1] at qq
          rw [g2]
          exact ⟨vz, H, I.tok _, ruz, n _ _ _ _ qq rdz hr (Tst.refl _)⟩
      cases rz with
      | nil =>
        cases qz; cases ez
        exact get_keyed (knd := nestedKind X.prog X.w) (room_n (by omega)) (nkey_is I hk ry ek) hs ⟨xs, D, rfl⟩ (look0 .non .non .none .non rfl _ k)
      | cons r1 r2 =>
        cases r2 with
        | nil =>
          cases ez
          cases qz with
          | cons q1 q2 =>
            cases q2
            exact getOr_keyed (knd := nestedKind X.prog X.w) (room_n (by omega)) (nkey_is I hk ry ek) hs ⟨xs, D, rfl⟩ (look0 _ _ _ r1 q1 _ k)
        | cons _ _ => cases ez
    · exact w.elim
  · exact w.elim
theorem isDct_at {pins : List (Addr × Obj)} {s : Shared} {σ : St} {H : Hp} {h : Hh} {d : D} {v : V} {u : Value} (I : Inv X pins σ H s) (hr : HRep (XF X) h H) (r : Rep (XF X) H d v) (ru : RelV v u) (e : isDct h d = true) : ∃ a, v = .ref a ∧ u = .ref a ∧ s.TypeIs (.ref a) "dict" ∧ ∀ b, Value.ref a = .ref b → ∃ ob, s.heap.get? b = some ob ∧ ob.dict = none := by
  unfold isDct at e
  split at e
  · rename_i a
    cases r; cases ru
    refine ⟨a, rfl, rfl, ?_⟩
    split at e
    · rename_i kvs ex
      obtain ⟨ks, e1, q⟩ := hr.d ex
      obtain ⟨t1, t2, _⟩ := isD_at I (.inl ⟨ks, .inl e1⟩)
      exact ⟨t1, t2⟩
    · rename_i kvs ex
      obtain ⟨xs, e1, rr, hs, hz, nd⟩ := hr.dt ex
      have D := dictN I e1 rr nd
      refine ⟨D.typeIs, fun b z => ?_⟩
      cases z
      obtain ⟨o, es, ep, h1, h2, _⟩ := D
      exact ⟨o, h1, h2.2.1⟩
    · cases e
  · cases e
theorem s_dget (hu : X.A.units + 200 < cLine) {o k : Expr} {d : List Expr} {mo mk : E} {md : As} {apos cpos : Pos} (ho : PE X o (TEd (XF X) Ec mo)) (hk : PE X k (TEd (XF X) Ec mk)) (gk : good k = true) (hd : PA X d (TAd (XF X) Ec md)) (gd : d.all good = true) (hl1 : d.length ≤ 1) (hr : recvOk o = true) (hl : (apos.endLine == cpos.line) = true) :
    PE X (.Call (.Attribute o "get" apos) (k :: d) [] cpos) (TEd (XF X) Ec (.dget mo mk md)) := by
  refine ⟨fun pins s σ H Q I ⟨σd, h, Qd, Xd, er, hrr, w, n, x⟩ => ?_⟩
  rw [wpE] at w
  have gall : (k :: d).all good = true := by rw [List.all_cons, gk, gd]; rfl
  have hfew : ((backTo cpos (starEach (k :: d) X.env)).all (fun x => !x.1) && (backToKw cpos (keywordEach [] X.env)).all (fun x => x.1.isSome)
      && decide ((k :: d).length + ([] : List Keyword).length + (if ([] : List Keyword).isEmpty then 0 else 1) < 30)) = true := by
    rw [good_few gall]
    show (true && true && decide _) = true
    simp; omega
  refine wpAny_Call_method (recv_base hr _ _ _) hfew hl PySem.F.plainAttrs_dict PySem.F.slot_dict_get PySem.F.type_dict_get (thn (ho.run pins s σ H (fun v H1 => ∃ d1 h1, Rep (XF X) H1 d1 v ∧ HRep (XF X) h1 H1 ∧ Tst H H1 ∧ isDct h1 d1 = true ∧ wpE mk σd h1 Xd fun y h2 => wpA md σd h2 Xd fun zs h3 => getD d1 y zs h3 Qd) I ⟨σd, h, _, Xd, er, hrr, w, fun d1 h1 v1 H1 q1 r1 hr1 t1 => ⟨d1, h1, r1, hr1, t1, q1.1, q1.2⟩, x⟩) fun u s1 ⟨v, H1, I1, rx, d1, h1, r1, hr1, t1, e1, w1⟩ => ?_)
  obtain ⟨a, rfl, rfl, ty1, ty2⟩ := isDct_at I1 hr1 r1 rx e1
  refine ⟨ty1, ty2, ?_⟩
  let Q' : List D → Hh → Prop := fun ds h2 => match ds with | y :: zs => getD d1 y zs h2 Qd | [] => False
  have hargs : PA X (k :: d) (TAd (XF X) Ec (.cons mk md)) := a_cons hk hd gk
  have hA := hargs.run cpos pins s1 σ H1 (fun vs H2 => ∃ ds h2, Reps (XF X) H2 ds vs ∧ HRep (XF X) h2 H2 ∧ Tst H1 H2 ∧ Q' ds h2) I1 ⟨σd, h1, Q', Xd, er.mono t1, hr1, by
    rw [wpA]
    exact w1, fun ds h2 vs H2 q2 rs hr2 t2 => ⟨ds, h2, rs, hr2, t2, q2⟩, x.mono t1⟩
  rw [good_star gk] at hA ⊢
  refine Calls.callWith_builtin (by show (false || (backTo cpos (starEach d X.env)).any (·.1)) = false; rw [good_any gd] <;> rfl) (Calls.evalArgs_plain ?_)
  refine thn hA fun us s2 ⟨vs, H2, I2, r2, ds, h2, rs, hr2, t2, w2⟩ => ?_
  cases rs with
  | nil => exact False.elim w2
  | cons ra rb =>
    cases r2 with
    | cons qa qb => exact dget_run hu I2 hr2 (r1.mono t2) ra qa rb qb w2 (n.mono (t1.trans t2))
/-! ### own classes -/
theorem meth_ht {o : Expr} {es : List Expr} {m : Str} {apos pos : Pos} {env : Env} (hr : recvOk o = true) (hl : (apos.endLine == pos.line) = true) (g : es.all good = true) (hn : es.length < 29) : ∃ pl : Sem Bool, eval (.Call (.Attribute o m apos) es [] pos) env = (do
      let ov ← eval o env
      standAt apos.atName
      let (f, first) ← holding [ov] (getMethod ov m pl)
      callWith pos f first (backTo pos (starEach es env)) (backToKw pos (keywordEach [] env))) := by
  refine ⟨(do return (← importBound o env).getD true), ?_⟩
  have hf : methodCallForm (es.length + ([] : List Keyword).length) (backTo pos (starEach es env)) (backToKw pos (keywordEach [] env)) = true := by
    unfold methodCallForm
    rw [good_few g]
    have ek : backToKw pos (keywordEach [] env) = [] := rfl
    rw [ek]
    show (true && true && decide (es.length + 0 + 0 < 30)) = true
    simp; omega
  have h2 : methodCallPos true o env apos pos = pure pos := by unfold methodCallPos; rw [hl]; rfl
  have e : (fun ov => methodCall o m apos pos env ov (es.length + ([] : List Keyword).length) (backTo pos (starEach es env)) (backToKw pos (keywordEach [] env))) = fun ov => (do
      let (f, first) ← holding [ov] (getMethod ov m (do return (← importBound o env).getD true))
      callWith pos f first (backTo pos (starEach es env)) (backToKw pos (keywordEach [] env))) := by
    funext ov
    unfold methodCall
    rw [hf, h2]
    unfold calleeOf
    rfl
  rw [arm_eval_Call, recv_base hr]
  exact congrArg (bind (eval o env)) (funext fun ov => congrArg (bind (standAt apos.atName)) (funext fun _ => congrFun e ov))
theorem s_fld {c f : Str} {o : Expr} {mo : E} {C : Addr} (ho : PE X o (TEd (XF X) Ec mo)) (hr : recvOk o = true) (hc : ClsN (XF X) c C) (k : Cls X.K C) (na : NoAttr X.K C f) : PE X (.Attribute o f pos) (TEd (XF X) Ec (.fld c mo f)) :=
  PE.imp (pe_fld ho (recv_base hr _ _ _)) fun σ H Q ⟨σd, h, Qd, Xd, er, hrr, w, n, x⟩ => by
    rw [wpE] at w
    refine ⟨σd, h, _, Xd, er, hrr, w, fun d1 h1 v1 H1 q1 r1 hr1 t1 => ?_, x⟩
    obtain ⟨a, fs, d, rfl, e, l, q⟩ := q1
    cases r1
    obtain ⟨C', dx, vs, n', e', r'⟩ := hr1 a _ e
    cases hc.eq n'
    rcases r'.look (f := f) with ⟨d', v, g1, g2, g3⟩ | ⟨g1, _⟩
    · rw [l] at g1; cases g1
      exact ⟨a, C, dx, vs, v, rfl, e', k, na, g2, n _ _ _ _ q g3 hr1 t1⟩
    · rw [l] at g1; cases g1
theorem s_new {c : Str} {F : Fn} {es : List Expr} {ms : As} {p : Pos} {CX : CXT} {k : Nat} {f : Addr} {fd : FuncData} {ps : List Str} {C : Addr} (hc : ClsN (XF X) c C) (M : Mk X.K C f) (G : FnOk X.prog X.w (XF X) X.mg X.base CX k f fd ps (spF (XF X) F)) (hr : Room (k + 1) X.A) (hg : Gl X c) (hm : X.mg c = some (.ref C))
    (hb : Binds (XF X) fd ps []) (hx : Passes CX X Ec) (hd : (c == ("__debug__" : Str)) = false) (ha : PA X es (TAd (XF X) Ec ms)) (g : es.all good = true) (h0 : es = [] → ms = As.nil) :
    PE X (.Call (.Name c p) es [] pos) (TEd (XF X) Ec (.new c F ms)) := by
  have key : ∀ (ds : List D) (h1 : Hh) (vs : List V) (H1 : Hp) (Qd : PV) (Q : VK) (Xd : PX), (∀ p, h1 p = none → wpF F (.ref p :: ds) (up h1 p (.obj c [])) Xd fun v h2 => v = .non ∧ Qd (.ref p) h2) → Reps (XF X) H1 ds vs → HRep (XF X) h1 H1 → NCl (XF X) Qd Q H1 → XCl (XF X) Ec Xd H1 →
      ∀ y dx, H1 y = none → H1 dx = none → dx ≠ y → spF (XF X) F (.ref y :: (vs ++ [])) (upd (upd H1 dx (.own y)) y (.ins C dx [])) (fun v H2 => v = .non ∧ Q (.ref y) H2) Ec := by
    intro ds h1 vs H1 Qd Q Xd w rs hr1 n x y dx hy hdx ne
    have t1 : Tst H1 (upd H1 dx (.own y)) := tst_new hdx
    have hy2 : upd H1 dx (.own y) y = none := by rw [upd_ne (Ne.symm ne)]; exact hy
    have t2 : Tst H1 (upd (upd H1 dx (.own y)) y (.ins C dx [])) := t1.trans (tst_new hy2)
    rw [List.append_nil]
    refine ⟨.ref y :: ds, up h1 y (.obj c []), _, Xd, .cons (.ref y) (rs.mono t2), (hr1.new hdx).mk (c := .obj c []) hy2 ⟨C, dx, [], hc, upd_same, .nil⟩, w y (hr1.fresh hy), fun d h2 v H2 q r hr2 t => ?_, x.mono t2⟩
    obtain ⟨rfl, q⟩ := q
    cases r
    exact ⟨rfl, n _ _ _ _ q (.ref y) hr2 (t2.trans t)⟩
  cases es with
  | nil =>
    obtain rfl := h0 rfl
    refine PE.imp (pe_make0 M G hr hg hm hb .nil hx hd) fun σ H Q ⟨σd, h, Qd, Xd, er, hrr, w, n, x⟩ => ?_
    rw [wpE, wpA] at w
    exact key [] h [] H Qd Q Xd w .nil hrr n x
  | cons e es =>
    rw [List.all_cons, Bool.and_eq_true] at g
    refine PE.imp (pe_make M G hr hg hm hb .nil hx ha hd (good_star g.1 _ _) (good_any g.2 _ _)) fun σ H Q ⟨σd, h, Qd, Xd, er, hrr, w, n, x⟩ => ?_
    rw [wpE] at w
    exact ⟨σd, h, _, Xd, er, hrr, w, fun ds h1 vs H1 q rs hr1 t1 => key ds h1 vs H1 Qd Q Xd q rs hr1 (n.mono t1) (x.mono t1), x⟩
theorem s_mcall {c m : Str} {F : Fn} {o : Expr} {mo : E} {es : List Expr} {ms : As} {apos : Pos} {CX : CXT} {k : Nat} {f : Addr} {fd : FuncData} {ps : List Str} {C : Addr} (hc : ClsN (XF X) c C) (kc : Cls X.K C) (hm : Meth X.K C m f) (G : FnOk X.prog X.w (XF X) X.mg X.base CX k f fd ps (spF (XF X) F)) (hr : Room k X.A)
    (hb : Binds (XF X) fd ps []) (hx : Passes CX X Ec) (ho : PE X o (TEd (XF X) Ec mo)) (hro : recvOk o = true) (hl : (apos.endLine == pos.line) = true) (hn : es.length < 29) (ha : PA X es (TAd (XF X) Ec ms)) (g : es.all good = true) (h0 : es = [] → ms = As.nil) :
    PE X (.Call (.Attribute o m apos) es [] pos) (TEd (XF X) Ec (.mcall c m F mo ms)) := by
  obtain ⟨pl, ht⟩ := meth_ht (m := m) (env := X.env) hro hl g hn
  have key : ∀ (a : Addr) (ds : List D) (h2 : Hh) (vs : List V) (H2 : Hp) (Qd : PV) (Q : VK) (Xd : PX), wpF F (.ref a :: ds) h2 Xd Qd → Reps (XF X) H2 ds vs → HRep (XF X) h2 H2 → NCl (XF X) Qd Q H2 → XCl (XF X) Ec Xd H2 → spF (XF X) F (.ref a :: (vs ++ [])) H2 Q Ec := by
    intro a ds h2 vs H2 Qd Q Xd w rs hr2 n x
    rw [List.append_nil]
    exact ⟨.ref a :: ds, h2, Qd, Xd, .cons (.ref a) rs, hr2, w, n, x⟩
  cases es with
  | nil =>
    obtain rfl := h0 rfl
    refine PE.imp (pe_meth0 (pl := pl) ho kc hm G hr hb .nil hx ht) fun σ H Q ⟨σd, h, Qd, Xd, er, hrr, w, n, x⟩ => ?_
    rw [wpE] at w
    refine ⟨σd, h, _, Xd, er, hrr, w, fun d1 h1 v1 H1 q1 r1 hr1 t1 => ?_, x⟩
    obtain ⟨a, fs, rfl, e, l, q⟩ := q1
    rw [wpA] at q
    cases r1
    obtain ⟨C', dx, vs, n', e', r'⟩ := hr1 a _ e
    cases hc.eq n'
    refine ⟨a, dx, vs, rfl, e', ?_, key a [] h1 [] H1 Qd Q Xd q .nil hr1 (n.mono t1) (x.mono t1)⟩
    rcases r'.look (f := m) with ⟨d', v, g1, g2, g3⟩ | ⟨_, g2⟩
    · rw [l] at g1; cases g1
    · exact g2
  | cons e es =>
    rw [List.all_cons, Bool.and_eq_true] at g
    refine PE.imp (pe_meth (pl := pl) ho kc hm G hr hb .nil hx ha (good_star g.1 _ _) (good_any g.2 _ _) ht) fun σ H Q ⟨σd, h, Qd, Xd, er, hrr, w, n, x⟩ => ?_
    rw [wpE] at w
    refine ⟨σd, h, _, Xd, er, hrr, w, fun d1 h1 v1 H1 q1 r1 hr1 t1 => ?_, x⟩
    obtain ⟨a, fs, rfl, e, l, q⟩ := q1
    cases r1
    obtain ⟨C', dx, vs, n', e', r'⟩ := hr1 a _ e
    cases hc.eq n'
    refine ⟨a, dx, vs, rfl, e', ?_, σd, h1, _, Xd, er.mono t1, hr1, q, fun ds h2 vs H2 q2 rs hr2 t2 => key a ds h2 vs H2 Qd Q Xd q2 rs hr2 (n.mono (t1.trans t2)) (x.mono (t1.trans t2)), x.mono t1⟩
    rcases r'.look (f := m) with ⟨d', v, g1, g2, g3⟩ | ⟨_, g2⟩
    · rw [l] at g1; cases g1
    · exact g2
end
end Mp
/-! Walks: iterators, targets. -/
namespace Mp
open PySem PySem.Spec L2 PyProof.Rows
/-- an iterator gives these items while the lists under g stand -/
structure WalkD (K : Frag) (J : L2.It) (items : List D) (g : List (Nat × List D)) (H0 : Hp) : Prop where
  go : ∀ i h H, i < items.length → HRep K h H → GOk g h → Tst H0 H → J.go i H
  stop : ∀ h H, HRep K h H → GOk g h → Tst H0 H → J.stop items.length H
  yld : ∀ i h H x H', i < items.length → HRep K h H → GOk g h → Tst H0 H → J.yld i H x H' → Tst H H' ∧ HRep K h H' ∧ ∃ d, items[i]? = some d ∧ Rep K H' d x
def TId (K : Frag) (Ec : XK) (it : It) : TI := fun σ H R => ∃ σd h, ∃ (Qd : List D → List (Nat × List D) → Hh → Prop), ∃ Xd, ERep K H σd σ ∧ HRep K h H ∧ wpI it σd h Xd Qd ∧
  (∀ items g h' J H', Qd items g h' → HRep K h' H' → Tst H H' → WalkD K J items g H' → R J H') ∧ XCl K Ec Xd H
theorem PI.imp {X : Cx} {tg e : Expr} {t t' : TI} (p : PI X tg e t) (h : ∀ σ H Q, t' σ H Q → t σ H Q) : PI X tg e t' := ⟨fun pins s σ H Q I q => p.run pins s σ H Q I (h σ H Q q)⟩
section
variable {K : Frag} {H0 : Hp} {a b : Addr} {xs ys : List D} {vs ws : List V}
theorem w_list : WalkD K (Itl K a) xs [(a, xs)] H0 where
  go := fun i h H hi hr g t => by
    obtain ⟨vs, s, r⟩ := hr.sl (g (a, xs) (by simp))
    exact ⟨vs, vs[i]'(by rw [← r.length]; exact hi), s, by simp⟩
  stop := fun h H hr g t => by
    obtain ⟨vs, s, r⟩ := hr.sl (g (a, xs) (by simp))
    exact ⟨vs, s, Nat.le_of_eq r.length.symm⟩
  yld := fun i h H x H' hi hr g t y => by
    obtain ⟨rfl, y⟩ := y
    obtain ⟨vs, s, r⟩ := hr.sl (g (a, xs) (by simp))
    obtain ⟨v, e, q⟩ := r.get (List.getElem?_eq_getElem hi)
    rw [y vs s] at e; cases e
    exact ⟨Tst.refl _, hr, _, List.getElem?_eq_getElem hi, q⟩
theorem w_tup (s0 : SqT K H0 a vs) (r0 : Reps K H0 xs vs) : WalkD K (Itt K a) xs [] H0 where
  go := fun i h H hi hr g t => ⟨vs, vs[i]'(by rw [← r0.length]; exact hi), t.sq s0, by simp⟩
  stop := fun h H hr g t => ⟨vs, t.sq s0, Nat.le_of_eq r0.length.symm⟩
  yld := fun i h H x H' hi hr g t y => by
    obtain ⟨rfl, y⟩ := y
    obtain ⟨v, e, q⟩ := r0.get (List.getElem?_eq_getElem hi)
    rw [y vs (t.sq s0)] at e; cases e
    exact ⟨Tst.refl _, hr, _, List.getElem?_eq_getElem hi, q.mono t⟩
theorem w_rng {lo : Int} {n : Nat} : WalkD K (Itr lo n) ((List.range n).map fun i : Nat => .int (lo + i)) [] H0 where
  go := fun i h H hi hr g t => by
    show i < n
    simpa using hi
  stop := fun h H hr g t => by
    show n ≤ _
    simp
  yld := fun i h H x H' hi hr g t y => by
    obtain ⟨rfl, rfl⟩ := y
    have hi' : i < n := by simpa using hi
    exact ⟨Tst.refl _, hr, .int (lo + i), by simp [hi'], .int _⟩
theorem w_enum : WalkD K (Ite K a) (xs.mapIdx fun i x => .tup [.int i, x]) [(a, xs)] H0 where
  go := fun i h H hi hr g t => by
    obtain ⟨vs, s, r⟩ := hr.sl (g (a, xs) (by simp))
    have hi : i < xs.length := by simpa using hi
    exact ⟨vs, vs[i]'(by rw [← r.length]; exact hi), s, by simp⟩
  stop := fun h H hr g t => by
    obtain ⟨vs, s, r⟩ := hr.sl (g (a, xs) (by simp))
    exact ⟨vs, s, by rw [List.length_mapIdx]; exact Nat.le_of_eq r.length.symm⟩
  yld := fun i h H x H' hi hr g t y => by
    obtain ⟨T, z, rfl, hT, rfl, y⟩ := y
    have hi : i < xs.length := by simpa using hi
    obtain ⟨vs, s, r⟩ := hr.sl (g (a, xs) (by simp))
    obtain ⟨v, e, q⟩ := r.get (List.getElem?_eq_getElem hi)
    rw [y vs s] at e; cases e
    exact ⟨tst_new hT, hr.new hT, .tup [.int i, xs[i]], by simp [hi], rep_tup (.cons (.int _) (.cons q .nil)) hT⟩
theorem w_enumT (s0 : SqT K H0 a vs) (r0 : Reps K H0 xs vs) : WalkD K (IteT K a) (xs.mapIdx fun i x => .tup [.int i, x]) [] H0 where
  go := fun i h H hi hr g t => by
    have hi : i < xs.length := by simpa using hi
    exact ⟨vs, vs[i]'(by rw [← r0.length]; exact hi), t.sq s0, by simp⟩
  stop := fun h H hr g t => ⟨vs, t.sq s0, by rw [List.length_mapIdx]; exact Nat.le_of_eq r0.length.symm⟩
  yld := fun i h H x H' hi hr g t y => by
    obtain ⟨T, z, rfl, hT, rfl, y⟩ := y
    have hi : i < xs.length := by simpa using hi
    obtain ⟨v, e, q⟩ := r0.get (List.getElem?_eq_getElem hi)
    rw [y vs (t.sq s0)] at e; cases e
    exact ⟨tst_new hT, hr.new hT, .tup [.int i, xs[i]], by simp [hi], rep_tup (.cons (.int _) (.cons (q.mono t) .nil)) hT⟩
theorem w_zip : WalkD K (Itz K a b) (List.zipWith (fun x y => .tup [x, y]) xs ys) [(a, xs), (b, ys)] H0 where
  go := fun i h H hi hr g t => by
    obtain ⟨vs, s, r⟩ := hr.sl (g (a, xs) (by simp))
    obtain ⟨ws, s2, r2⟩ := hr.sl (g (b, ys) (by simp))
    have h1 : xs.length = vs.length := r.length
    have h2 : ys.length = ws.length := r2.length
    rw [List.length_zipWith] at hi
    exact ⟨vs, ws, vs[i]'(by omega), ws[i]'(by omega), s, s2, by simp, by simp⟩
  stop := fun h H hr g t => by
    obtain ⟨vs, s, r⟩ := hr.sl (g (a, xs) (by simp))
    obtain ⟨ws, s2, r2⟩ := hr.sl (g (b, ys) (by simp))
    have h1 : xs.length = vs.length := r.length
    have h2 : ys.length = ws.length := r2.length
    refine ⟨vs, ws, s, s2, ?_⟩
    rw [List.length_zipWith]; omega
  yld := fun i h H x H' hi hr g t y => by
    obtain ⟨T, z, w, rfl, hT, rfl, y, y2⟩ := y
    rw [List.length_zipWith] at hi
    obtain ⟨vs, s, r⟩ := hr.sl (g (a, xs) (by simp))
    obtain ⟨ws, s2, r2⟩ := hr.sl (g (b, ys) (by simp))
    have h1 : i < xs.length := by omega
    have h2 : i < ys.length := by omega
    obtain ⟨v, e, q⟩ := r.get (List.getElem?_eq_getElem h1)
    obtain ⟨u, e2, q2⟩ := r2.get (List.getElem?_eq_getElem h2)
    rw [y vs s] at e; cases e
    rw [y2 ws s2] at e2; cases e2
    exact ⟨tst_new hT, hr.new hT, .tup [xs[i], ys[i]], by rw [List.getElem?_zipWith, List.getElem?_eq_getElem h1, List.getElem?_eq_getElem h2], rep_tup (.cons q (.cons q2 .nil)) hT⟩
theorem w_zipT (s0 : SqT K H0 a vs) (r0 : Reps K H0 xs vs) (s1 : SqT K H0 b ws) (r1 : Reps K H0 ys ws) : WalkD K (RZ.ItzT K a b) (List.zipWith (fun x y => .tup [x, y]) xs ys) [] H0 where
  go := fun i h H hi hr g t => by
    have h1 := r0.length
    have h2 := r1.length
    rw [List.length_zipWith] at hi
    exact ⟨vs, ws, vs[i]'(by omega), ws[i]'(by omega), t.sq s0, t.sq s1, by simp, by simp⟩
  stop := fun h H hr g t => by
    have h1 := r0.length
    have h2 := r1.length
    refine ⟨vs, ws, t.sq s0, t.sq s1, ?_⟩
    rw [List.length_zipWith]; omega
  yld := fun i h H x H' hi hr g t y => by
    obtain ⟨T, z, w, rfl, hT, rfl, y, y2⟩ := y
    rw [List.length_zipWith] at hi
    have h1 : i < xs.length := by omega
    have h2 : i < ys.length := by omega
    obtain ⟨v, e, q⟩ := r0.get (List.getElem?_eq_getElem h1)
    obtain ⟨u, e2, q2⟩ := r1.get (List.getElem?_eq_getElem h2)
    rw [y vs (t.sq s0)] at e; cases e
    rw [y2 ws (t.sq s1)] at e2; cases e2
    exact ⟨tst_new hT, hr.new hT, .tup [xs[i], ys[i]], by rw [List.getElem?_zipWith, List.getElem?_eq_getElem h1, List.getElem?_eq_getElem h2], rep_tup (.cons (q.mono t) (.cons (q2.mono t) .nil)) hT⟩
end
/-! ### iterators -/
section
variable {T : Tx} {Ec : XK} {X : Cx} {tg a b : Expr} {ma mb : E} {pos : Pos}
def iSeq (K : Frag) (tl : TE) : TI := fun σ H R => tl σ H fun x H1 => ∃ a, x = .ref a ∧ ((∃ xs, SqL K H1 a xs ∧ R (Itl K a) H1) ∨ (∃ xs, SqT K H1 a xs ∧ R (Itt K a) H1))
theorem pi_seq {l : Expr} {tl : TE} (hl : PE X l tl) : PI X tg l (iSeq (XF X) tl) := by
  refine ⟨fun pins s σ H R I h => ?_⟩
  refine thn (hl.run pins s σ H _ I h) fun v s1 ⟨x, H1, I1, r1, q1⟩ => ?_
  obtain ⟨a, e, q1⟩ := q1
  subst e
  cases r1
  have fin : ∀ b ∈ [s1.heap.objs.size], FpOk X pins H1 b := fun b hb => by
    have e : b = s1.heap.objs.size := by simpa using hb
    subst e
    exact I1.fpOk (Nat.le_refl _) (I1.hok.fresh (Nat.le_refl _))
  rcases q1 with ⟨xs, hq, q⟩ | ⟨xs, hq, q⟩
  · obtain ⟨its, rv, p, hz⟩ := I1.list hq
    refine wpAny_pyIter_list p.isList ?_
    exact ⟨s1.heap.objs.size, [s1.heap.objs.size], _, _, H1, rfl, I1.kept (t' := s1.toks) fun b o e => Heap.get?_push_of_some _ e, turn_list a _, ⟨_, Heap.get?_push_size _ rfl, rfl, rfl⟩, fin, q⟩
  · obtain ⟨its, rv, p, hz⟩ := I1.tuple hq
    refine wpAny_pyIter_tuple (show s1.heap.IsTuple a its.toArray from p) ?_
    exact ⟨s1.heap.objs.size, [s1.heap.objs.size], _, _, H1, rfl, I1.kept (t' := s1.toks) fun b o e => Heap.get?_push_of_some _ e, turn_tuple a _, ⟨_, Heap.get?_push_size _ rfl, rfl, rfl⟩, fin, q⟩
theorem i_each (ha : PE X a (TEd (XF X) Ec ma)) : PI X tg a (TId (XF X) Ec (.each ma)) :=
  PI.imp (pi_seq ha) fun σ H R ⟨σd, h, Qd, Xd, er, hr, w, n, x⟩ => by
    rw [wpI] at w
    refine ⟨σd, h, _, Xd, er, hr, w, fun d1 h1 v1 H1 q1 r1 hr1 t1 => ?_, x⟩
    cases r1 with
    | tup s r => exact ⟨_, rfl, .inr ⟨_, s, n _ _ _ _ _ q1 hr1 t1 (w_tup s r)⟩⟩
    | ref a =>
      obtain ⟨xs, e, q⟩ := q1
      obtain ⟨vs, s, r⟩ := hr1.sl e
      exact ⟨_, rfl, .inl ⟨vs, s, n _ _ _ _ _ q hr1 t1 w_list⟩⟩
    | _ => exact q1.elim
def one1 (R : D → Hh → Prop) : List D → Hh → Prop
  | [d], h => R d h
  | _, _ => False
def two2 (R : D → D → Hh → Prop) : List D → Hh → Prop
  | [d, d2], h => R d d2 h
  | _, _ => False
theorem one1_inv {R : D → Hh → Prop} {ds : List D} {h : Hh} (q : one1 R ds h) : ∃ d, ds = [d] ∧ R d h := by
  unfold one1 at q
  split at q
  · exact ⟨_, rfl, q⟩
  · exact q.elim
theorem two2_inv {R : D → D → Hh → Prop} {ds : List D} {h : Hh} (q : two2 R ds h) : ∃ d d2, ds = [d, d2] ∧ R d d2 h := by
  unfold two2 at q
  split at q
  · exact ⟨_, _, rfl, q⟩
  · exact q.elim
theorem wpA1 {σ : En} {h : Hh} {Xd : PX} {R : D → Hh → Prop} (w : wpE ma σ h Xd R) : wpA (.cons ma .nil) σ h Xd (one1 R) := by
  simp only [wpA]; exact w
theorem wpA2 {σ : En} {h : Hh} {Xd : PX} {R : D → D → Hh → Prop} (w : wpE ma σ h Xd fun d h1 => wpE mb σ h1 Xd fun d2 h2 => R d d2 h2) : wpA (.cons ma (.cons mb .nil)) σ h Xd (two2 R) := by
  simp only [wpA]; exact w
theorem i_rng1 {p : Pos} (hg : Gl X "range") (hm : X.mg "range" = none) (ha : PE X a (TEd (XF X) Ec ma)) (g : good a = true) : PI X tg (.Call (.Name "range" p) [a] [] pos) (TId (XF X) Ec (.rng1 ma)) :=
  PI.imp (pi_range1 hg hm (a_cons ha a_nil g) (good_star g _ _)) fun σ H R ⟨σd, h, Qd, Xd, er, hr, w, n, x⟩ => by
    rw [wpI] at w
    refine ⟨σd, h, _, Xd, er, hr, wpA1 w, fun ds h1 vs H1 q rs hr1 t1 => ?_, x⟩
    obtain ⟨d, rfl, q⟩ := one1_inv q
    obtain ⟨i, rfl, q⟩ := asInt_inv q
    cases rs with
    | cons r rs =>
      cases r; cases rs
      refine ⟨i, rfl, q.1, q.2.1, n _ _ _ _ _ q.2.2 hr1 t1 ?_⟩
      have := w_rng (K := (XF X)) (H0 := H1) (lo := 0) (n := i.toNat)
      simpa using this
theorem i_rng2 {p : Pos} (hg : Gl X "range") (hm : X.mg "range" = none) (ha : PE X a (TEd (XF X) Ec ma)) (g : good a = true) (hb : PE X b (TEd (XF X) Ec mb)) (g2 : good b = true) : PI X tg (.Call (.Name "range" p) [a, b] [] pos) (TId (XF X) Ec (.rng2 ma mb)) :=
  PI.imp (pi_range2 hg hm (a_cons ha (a_cons hb a_nil g2) g) (by rw [good_star g, good_star g2]; rfl) (good_star g2 _ _)) fun σ H R ⟨σd, h, Qd, Xd, er, hr, w, n, x⟩ => by
    rw [wpI] at w
    refine ⟨σd, h, _, Xd, er, hr, wpA2 w, fun ds h1 vs H1 q rs hr1 t1 => ?_, x⟩
    obtain ⟨d, d2, rfl, q⟩ := two2_inv q
    obtain ⟨i, rfl, q⟩ := asInt_inv q
    obtain ⟨j, rfl, q⟩ := asInt_inv q
    cases rs with
    | cons r rs =>
      cases rs with
      | cons r2 rs =>
        cases r; cases r2; cases rs
        exact ⟨i, j, rfl, q.1, n _ _ _ _ _ q.2 hr1 t1 w_rng⟩
theorem i_enum {p tpos : Pos} {elts : List Expr} {kk : Nat} (hg : Gl X "enumerate") (hm : X.mg "enumerate" = none) (ha : PE X a (TEd (XF X) Ec ma)) (g : good a = true) : PI X (.Tuple elts kk tpos) (.Call (.Name "enumerate" p) [a] [] pos) (TId (XF X) Ec (.enum ma)) :=
  PI.imp (pi_enumT hg hm (a_cons ha a_nil g) (good_star g _ _)) fun σ H R ⟨σd, h, Qd, Xd, er, hr, w, n, x⟩ => by
    rw [wpI] at w
    refine ⟨σd, h, _, Xd, er, hr, wpA1 w, fun ds h1 vs H1 q rs hr1 t1 => ?_, x⟩
    obtain ⟨d, rfl, q⟩ := one1_inv q
    cases rs with
    | cons r rs =>
      cases rs
      cases r with
      | tup s r => exact ⟨_, _, rfl, .inr ⟨s, n _ _ _ _ _ q hr1 t1 (w_enumT s r)⟩⟩
      | ref a =>
        obtain ⟨xs, e, q⟩ := q
        obtain ⟨vs, s, r⟩ := hr1.sl e
        exact ⟨_, _, rfl, .inl ⟨s, n _ _ _ _ _ q hr1 t1 w_enum⟩⟩
      | _ => exact q.elim
theorem i_zip {p tpos : Pos} {elts : List Expr} {kk : Nat} (hg : Gl X "zip") (hm : X.mg "zip" = none) (ha : PE X a (TEd (XF X) Ec ma)) (g : good a = true) (hb : PE X b (TEd (XF X) Ec mb)) (g2 : good b = true) : PI X (.Tuple elts kk tpos) (.Call (.Name "zip" p) [a, b] [] pos) (TId (XF X) Ec (.zip ma mb)) :=
  PI.imp (RZ.pi_zipA hg hm (a_cons ha (a_cons hb a_nil g2) g) (good_star g _ _) (good_any (es := [b]) (by simp [g2]) _ _)) fun σ H R ⟨σd, h, Qd, Xd, er, hr, w, n, x⟩ => by
    rw [wpI] at w
    refine ⟨σd, h, _, Xd, er, hr, wpA2 w, fun ds h1 vs H1 q rs hr1 t1 => ?_, x⟩
    obtain ⟨d, d2, rfl, q⟩ := two2_inv q
    cases rs with
    | cons r rs =>
      cases rs with
      | cons r2 rs =>
        cases rs
        cases r with
        | tup s r =>
          cases r2 with
          | tup s2 r2 => exact ⟨_, _, _, _, rfl, .inr ⟨s, s2, n _ _ _ _ _ q hr1 t1 (w_zipT s r s2 r2)⟩⟩
          | _ => exact q.elim
        | ref a =>
          cases r2 with
          | ref b =>
            obtain ⟨xs, ys, e, e2, q⟩ := q
            obtain ⟨vs, s, r⟩ := hr1.sl e
            obtain ⟨ws, s2, r2⟩ := hr1.sl e2
            exact ⟨_, _, _, _, rfl, .inl ⟨s, s2, n _ _ _ _ _ q hr1 t1 w_zip⟩⟩
          | _ => exact q.elim
        | _ => cases r2 <;> exact q.elim
end
/-! ### targets -/
/-- only these slots are written -/
def Same (ts : List Nat) (σ σ' : L2.St) : Prop := σ'.length = σ.length ∧ ∀ i, i ∉ ts → σ'[i]? = σ[i]?
def TGd (K : Frag) (t : Tg) : TG := fun v σ H Q => ∃ σd d, ∃ (k : En → Prop), ERep K H σd σ ∧ Rep K H d v ∧ wpTg t d σd k ∧ (∀ σd' σ', k σd' → ERep K H σd' σ' → Same (tgs t) σ σ' → Q σ' H)
theorem PG.imp {X : Cx} {e : Expr} {t t' : TG} (p : PG X e t) (h : ∀ v σ H Q, t' v σ H Q → t v σ H Q) : PG X e t' := ⟨fun pins s σ H v u Q I r q => p.run pins s σ H v u Q I r (h v σ H Q q)⟩
/-- a tuple's names, from the left -/
def TGsd (K : Frag) (t : Tg) : TGs := fun vs σ H Q => ∃ σd ds, ∃ (k : En → Prop), ERep K H σd σ ∧ Reps K H ds vs ∧ wpTg t (.tup ds) σd k ∧ (∀ σd' σ', k σd' → ERep K H σd' σ' → Same (tgs t) σ σ' → Q σ' H)
theorem PGs.imp {X : Cx} {e : List Expr} {t t' : TGs} (p : PGs X e t) (h : ∀ v σ H Q, t' v σ H Q → t v σ H Q) : PGs X e t' := ⟨fun pins s σ H v u Q I r q => p.run pins s σ H v u Q I r (h v σ H Q q)⟩
section
variable {T : Tx} {X : Cx} {sc : Scope}
def isNm : Expr → Bool
  | .Name .. => true
  | .Tuple .. => true
  | _ => false
theorem chkT_nm {t : Tg} {e : Expr} (h : chkT T t sc (.inl e) = true) : isNm e = true := by
  cases t <;> cases e <;> first | rfl | (unfold chkT at h; cases h)
theorem asg_nm {e : Expr} (es : List Expr) (g : isNm e = true) (env : Env) : assignEach (e :: es) env = (false, assign e env) :: assignEach es env := by
  cases e <;> first | rfl | cases g
variable (hN : X.N = T.N) (nd : X.N.Nodup) (hc : X.calm = true) (hL : ∀ x, locB sc x = true → Loc X.env.scope x ∧ (X.fn x = true ∨ X.env.scope.names.lookup x = some .local))
include hN nd hc hL
theorem pgsd_nil : PGs X [] (TGsd (XF X) .nil) := PGs.imp pgs_nil fun vs σ H Q ⟨σd, ds, k, er, rs, w, n⟩ => by
  rw [wpTg] at w
  obtain ⟨e, w⟩ := w
  cases e
  cases rs
  exact ⟨rfl, n _ _ w er ⟨rfl, fun _ _ => rfl⟩⟩
theorem pgsd_cons {t r : Tg} {e : Expr} {es : List Expr} (h1 : PG X e (TGd (XF X) t)) (h2 : PGs X es (TGsd (XF X) r)) (g : isNm e = true) : PGs X (e :: es) (TGsd (XF X) (.cons t r)) :=
  PGs.imp (pgs_cons h1 h2 (by rw [asg_nm es g]; rfl)) fun vs σ H Q ⟨σd, ds, k, er, rs, w, n⟩ => by
    rw [wpTg] at w
    obtain ⟨y, ys, e, w⟩ := w
    cases e
    cases rs with
    | cons r rs => exact ⟨_, _, rfl, σd, _, _, er, r, w, fun σ1 σ' q er1 s1 => ⟨σ1, _, k, er1, rs, q, fun σ2 σ'' q2 er2 s2 => n _ _ q2 er2 ⟨s2.1.trans s1.1, fun i hi => by
      unfold tgs at hi
      rw [List.mem_append, not_or] at hi
      exact (s2.2 i hi.2).trans (s1.2 i hi.1)⟩⟩⟩
theorem pgd_tup {t : Tg} {es : List Expr} {n : Nat} {k : Nat} {pos : Pos} (h : PGs X es (TGsd (XF X) t)) (hw : ∀ d σ k, wpTg t d σ k → ∃ ds, d = .tup ds ∧ ds.length = n) (h1 : (assignEach es X.env).length = n) (h2 : (assignEach es X.env).findIdx? (·.1) = none) : PG X (.Tuple es k pos) (TGd (XF X) t) :=
  PG.imp (pg_tup hc h h1 h2) fun v σ H Q ⟨σd, d, k, er, r, w, n⟩ => by
    obtain ⟨ds, rfl, hl⟩ := hw _ _ _ w
    cases r with
    | tup s rs => exact ⟨_, _, rfl, s, by rw [← rs.length]; exact hl, σd, ds, k, er, rs, w, n⟩
omit hN nd hc hL in
theorem wpTg_ex : ∀ {t : Tg} {d : D} {σ : En} {k : En → Prop}, wpTg t d σ k → ∃ σ1, k σ1
  | .name i, d, σ, k, h => ⟨_, h⟩
  | .nil, d, σ, k, h => ⟨_, h.2⟩
  | .cons t r, d, σ, k, h => by
    rw [wpTg] at h
    obtain ⟨y, ys, rfl, h⟩ := h
    obtain ⟨σ1, h1⟩ := wpTg_ex h
    exact wpTg_ex h1
omit hN nd hc hL in
theorem asg_len : ∀ es : List Expr, (assignEach es X.env).length = es.length
  | [] => rfl
  | e :: es => by
    have := asg_len es
    cases e <;> (unfold assignEach; simp [this])
theorem sT : ∀ (t : Tg), (∀ e, chkT T t sc (.inl e) = true → PG X e (TGd (XF X) t)) ∧ ∀ es, chkT T t sc (.inr es) = true →
    PGs X es (TGsd (XF X) t) ∧ (assignEach es X.env).findIdx? (·.1) = none ∧ ∀ d σ k, wpTg t d σ k → ∃ ds, d = .tup ds ∧ ds.length = es.length := by
  intro t
  induction t with
  | name i =>
    refine ⟨fun e h => ?_, fun es h => by unfold chkT at h; split at h <;> first | (rename_i z; cases z; done) | cases h⟩
    unfold chkT at h
    split at h
    · rename_i z
      cases z
      simp only [Bool.and_eq_true, decide_eq_true_eq] at h
      obtain ⟨l, f⟩ := hL _ h.2
      exact PG.imp (pg_name nd (by rw [hN]; exact h.1) l f) fun v σ H Q ⟨σd, d, k, er, r, w, n⟩ => n _ _ w (er.set i r) ⟨List.length_set, fun j hj => List.getElem?_set_ne (by unfold tgs at hj; simpa using Ne.symm (by simpa using hj))⟩
    · cases h
  | nil =>
    have base : PGs X [] (TGsd (XF X) .nil) ∧ (assignEach [] X.env).findIdx? (·.1) = none ∧ ∀ d σ k, wpTg .nil d σ k → ∃ ds, d = .tup ds ∧ ds.length = ([] : List Expr).length :=
      ⟨pgsd_nil hN nd hc hL, rfl, fun d σ k w => ⟨[], w.1, rfl⟩⟩
    refine ⟨fun e h => ?_, fun es h => ?_⟩
    · unfold chkT at h
      split at h
      · rename_i es kk p z
        cases z
        cases es with
        | nil => exact pgd_tup hN nd hc hL base.1 base.2.2 rfl base.2.1
        | cons a as => cases h
      · rename_i z; cases z
      · cases h
    · cases es with
      | nil => exact base
      | cons a as => unfold chkT at h; cases h
  | cons t r ih ihr =>
    have base : ∀ e es, chkT T t sc (.inl e) = true → chkT T r sc (.inr es) = true → PGs X (e :: es) (TGsd (XF X) (.cons t r)) ∧ (assignEach (e :: es) X.env).findIdx? (·.1) = none ∧
        ∀ d σ k, wpTg (.cons t r) d σ k → ∃ ds, d = .tup ds ∧ ds.length = (e :: es).length := fun e es h1 h2 => by
      obtain ⟨p1, p2, p3⟩ := ihr.2 es h2
      refine ⟨pgsd_cons hN nd hc hL (ih.1 e h1) p1 (chkT_nm h1), ?_, fun d σ k w => ?_⟩
      · rw [asg_nm es (chkT_nm h1), List.findIdx?_cons]
        simp [p2]
      · rw [wpTg] at w
        obtain ⟨y, ys, rfl, w⟩ := w
        obtain ⟨σ1, w1⟩ := wpTg_ex w
        obtain ⟨ds, e1, e2⟩ := p3 _ _ _ w1
        cases e1
        exact ⟨_, rfl, by simp [e2]⟩
    refine ⟨fun e h => ?_, fun es h => ?_⟩
    · unfold chkT at h
      split at h
      · rename_i e' es kk p z
        cases z
        simp only [Bool.and_eq_true] at h
        obtain ⟨b1, b2, b3⟩ := base _ _ h.1 h.2
        exact pgd_tup hN nd hc hL b1 b3 (asg_len _) b2
      · rename_i z; cases z
      · cases h
    · unfold chkT at h
      split at h
      · rename_i z; cases z
      · rename_i z
        cases z
        simp only [Bool.and_eq_true] at h
        exact base _ _ h.1 h.2
      · cases h
end
end Mp
/-! Expressions: all forms at once. -/
namespace Mp
open PySem PySem.Spec L2
/-! ### comprehensions -/
theorem wipe_in {i : Nat} : ∀ {vs : List Nat} {σ : St}, i ∈ vs → (wipe σ vs)[i]? = if i < σ.length then some none else none
  | v :: vs, σ, h => by
    unfold wipe
    by_cases e : v = i
    · subst e
      by_cases hl : v < σ.length
      · rw [List.getElem?_set_self (by rw [wipe_length]; exact hl), if_pos hl]
      · rw [List.getElem?_eq_none (by rw [List.length_set, wipe_length]; omega), if_neg hl]
    · rw [List.getElem?_set_ne e]
      exact wipe_in ((List.mem_cons.mp h).resolve_left (Ne.symm e))
theorem wipe_same {vs ts : List Nat} {σ σ' : St} (hs : ∀ i ∈ ts, i ∈ vs) (s : Same ts (wipe σ vs) σ') : wipe σ' vs = wipe σ vs := by
  refine List.ext_getElem? fun i => ?_
  by_cases hi : i ∈ vs
  · rw [wipe_in hi, wipe_in hi, s.1, wipe_length]
  · rw [wipe_out hi, s.2 i fun z => hi (hs i z)]
/-- a comprehension's tests -/
def TCd (K : Frag) (Ec : XK) (c : Op) : TT := fun σ H Q => ∃ σd h, ∃ (Qd : Bool → Hh → Prop), ∃ Xd, ERep K H σd σ ∧ HRep K h H ∧ wpC c σd h Xd Qd ∧ (∀ t h' H', Qd t h' → HRep K h' H' → Tst H H' → Q t H') ∧ XCl K Ec Xd H
section
variable {T : Tx} {Ec : XK} {X : Cx} {tg iter elt kx vx : Expr} {ifs : List Expr} {scope : Scope} {pos : Pos} {own : List Nat} {t : Tg} {it : It} {c : Op} {e k : E}
theorem own_2 : (ownN T own).map (·.2) = own := by
  unfold ownN
  rw [List.map_map]
  exact List.map_id' own
theorem lc_to (hs : ∀ i ∈ tgs t, i ∈ own) {σ : St} {H : Hp} {Q : VK} (h : TEd (XF X) Ec (.comp own t it c e) σ H Q) : tLc (TId (XF X) Ec it) (TGd (XF X) t) (TCd (XF X) E0 c) (TEd (XF X) E0 e) own σ H Q := by
  obtain ⟨σd, h, Qd, Xd, er, hr, w, n, x⟩ := h
  rw [wpE] at w
  refine ⟨σd, h, _, Xd, er, hr, w, fun items g h1 J H1 q hr1 t1 W dd hD => ?_, x⟩
  have q := q dd (hr1.fresh hD)
  have er1 := er.mono t1
  generalize htn : (fun (x : D) (_ : En) (h2 : Hh) (k : En → Hh → Prop) => wpTg t x (wipeD σd own) fun σ1 => wpC c σ1 h2 (fun _ _ => False) fun b h3 =>
        if b = true then wpE e σ1 h3 (fun _ _ => False) fun y h4 => ∃ acc, h4 dd = some (.lst acc) ∧ acc.length < sz ∧ k σd (up h4 dd (.lst (acc ++ [y]))) else k σd h3) = turn at q
  refine ⟨fun i m H' => m = items.length - i ∧ i ≤ items.length ∧ ∃ h', HRep (XF X) h' H' ∧ Tst H1 H' ∧ itr g turn (fun _ h2 => Qd (.ref dd) h2) (items.drop i) σd h', ⟨_, rfl, Nat.zero_le _, _, hr1.mk (c := .lst []) hD ⟨[], upd_same, .nil⟩, tst_new hD, q⟩, ?_⟩
  rintro i m H' ⟨rfl, hi, h', hr', t', q'⟩
  by_cases hlt : i < items.length
  · rw [List.drop_eq_getElem_cons hlt] at q'
    obtain ⟨gk, q'⟩ := q'
    refine .inr ⟨W.go i h' H' hlt hr' gk t', fun H2 => ∃ h2, HRep (XF X) h2 H2 ∧ Tst H1 H2 ∧ itr g turn (fun _ h2 => Qd (.ref dd) h2) (items.drop (i + 1)) σd h2, fun H2 ⟨h2, a1, a2, a3⟩ => ⟨_, by omega, rfl, hlt, h2, a1, a2, a3⟩, fun v H2 y => ?_⟩
    obtain ⟨t2, hr2, d, hd, r2⟩ := W.yld i h' H' v H2 hlt hr' gk t' y
    rw [List.getElem?_eq_getElem hlt] at hd; cases hd
    rw [← htn] at q'
    refine ⟨wipeD σd own, _, _, ((er1.mono t').mono t2).wipe own, r2, q', fun σ1 σ2 q1 er2 sm => ⟨wipe_same hs sm, σ1, h', _, _, er2, hr2, q1, fun b h3 H3 q3 hr3 t3 => ?_, fun _ _ z => z⟩⟩
    rw [htn] at q3
    cases b with
    | false => exact ⟨h3, hr3, (t'.trans t2).trans t3, q3⟩
    | true =>
      refine ⟨σ1, h3, _, _, er2.mono t3, hr3, q3, fun y h4 vy H4 q4 ry hr4 t4 => ?_, fun _ _ z => z⟩
      obtain ⟨acc, e4, l4, q4⟩ := q4
      obtain ⟨vs, e5, r5⟩ := hr4.l e4
      have wr : WrOk H4 dd := .inl ⟨vs, e5⟩
      exact ⟨vs, e5, by rw [← r5.length, sz_eq]; exact l4, _, hr4.wr (c := .lst (acc ++ [y])) wr ⟨_, upd_same, (r5.app (.cons ry .nil)).mono (tst_wr wr)⟩, (((t'.trans t2).trans t3).trans t4).trans (tst_wr wr), q4⟩
  · have e' : i = items.length := by omega
    subst e'
    rw [List.drop_length] at q'
    exact .inl ⟨W.stop h' H' hr' q'.1 t', n _ _ _ _ q'.2 (.ref dd) hr' (t1.trans t')⟩
theorem dc_to (hs : ∀ i ∈ tgs t, i ∈ own) {σ : St} {H : Hp} {Q : VK} (h : TEd (XF X) Ec (.dcomp own t it c k e) σ H Q) : tDc (TId (XF X) Ec it) (TGd (XF X) t) (TCd (XF X) E0 c) (TEd (XF X) E0 k) (TEd (XF X) E0 e) own σ H Q := by
  obtain ⟨σd, h, Qd, Xd, er, hr, w, n, x⟩ := h
  rw [wpE] at w
  refine ⟨σd, h, _, Xd, er, hr, w, fun items g h1 J H1 q hr1 t1 W dd hD => ?_, x⟩
  have q := q dd (hr1.fresh hD)
  have er1 := er.mono t1
  generalize htn : (fun (x : D) (_ : En) (h2 : Hh) (kk : En → Hh → Prop) => wpTg t x (wipeD σd own) fun σ1 => wpC c σ1 h2 (fun _ _ => False) fun b h3 =>
        if b = true then wpE k σ1 h3 (fun _ _ => False) fun y h4 => wpE e σ1 h4 (fun _ _ => False) fun z h5 => ∃ acc, h5 dd = some (.dct acc) ∧ isKey y = true ∧ acc.length < sz ∧ kk σd (up h5 dd (.dct (stor acc y z))) else kk σd h3) = turn at q
  refine ⟨fun i m H' => m = items.length - i ∧ i ≤ items.length ∧ ∃ h', HRep (XF X) h' H' ∧ Tst H1 H' ∧ itr g turn (fun _ h2 => Qd (.ref dd) h2) (items.drop i) σd h', ⟨_, rfl, Nat.zero_le _, _, hr1.mk (c := .dct []) hD ⟨[], upd_same, .nil⟩, tst_new hD, q⟩, ?_⟩
  rintro i m H' ⟨rfl, hi, h', hr', t', q'⟩
  by_cases hlt : i < items.length
  · rw [List.drop_eq_getElem_cons hlt] at q'
    obtain ⟨gk, q'⟩ := q'
    refine .inr ⟨W.go i h' H' hlt hr' gk t', fun H2 => ∃ h2, HRep (XF X) h2 H2 ∧ Tst H1 H2 ∧ itr g turn (fun _ h2 => Qd (.ref dd) h2) (items.drop (i + 1)) σd h2, fun H2 ⟨h2, a1, a2, a3⟩ => ⟨_, by omega, rfl, hlt, h2, a1, a2, a3⟩, fun v H2 y => ?_⟩
    obtain ⟨t2, hr2, d, hd, r2⟩ := W.yld i h' H' v H2 hlt hr' gk t' y
    rw [List.getElem?_eq_getElem hlt] at hd; cases hd
    rw [← htn] at q'
    refine ⟨wipeD σd own, _, _, ((er1.mono t').mono t2).wipe own, r2, q', fun σ1 σ2 q1 er2 sm => ⟨wipe_same hs sm, σ1, h', _, _, er2, hr2, q1, fun b h3 H3 q3 hr3 t3 => ?_, fun _ _ z => z⟩⟩
    rw [htn] at q3
    cases b with
    | false => exact ⟨h3, hr3, (t'.trans t2).trans t3, q3⟩
    | true =>
      refine ⟨σ1, h3, _, _, er2.mono t3, hr3, q3, fun y h4 vy H4 q4 ry hr4 t4 => ⟨σ1, h4, _, _, (er2.mono t3).mono t4, hr4, q4, fun z h5 vz H5 q5 rz hr5 t5 => ?_, fun _ _ z => z⟩, fun _ _ z => z⟩
      obtain ⟨acc, e5, ky, l5, q5⟩ := q5
      obtain ⟨ks, e6, r6⟩ := hr5.d e5
      obtain ⟨kk, ek⟩ := isKey_keyV ky
      have wr : WrOk H5 dd := .inr (.inl ⟨ks, e6⟩)
      exact ⟨ks, kk, keyV_rep ek ry, e6, by rw [← r6.length, sz_eq]; exact l5, _, hr5.wr (c := .dct (stor acc y z)) wr ⟨_, upd_same, (r6.put ek rz).mono (tst_wr wr)⟩, ((((t'.trans t2).trans t3).trans t4).trans t5).trans (tst_wr wr), q5⟩
  · have e' : i = items.length := by omega
    subst e'
    rw [List.drop_length] at q'
    exact .inl ⟨W.stop h' H' hr' q'.1 t', n _ _ _ _ q'.2 (.ref dd) hr' (t1.trans t')⟩
end
/-! ### tests -/
section
variable {T : Tx} {Ec : XK} {X : Cx} {a b c : Expr} {ma mb mc : E} {pos : Pos}
def plainT : Expr → Bool
  | .UnaryOp .Not _ _ => false
  | .BoolOp .. => false
  | .IfExp .. => false
  | .Compare .. => false
  | _ => true
theorem t_plain {e : Expr} {m : E} (h : PE X e (TEd (XF X) Ec m)) (g : plainT e = true) : PT X e (TTd (XF X) Ec m) := by
  refine PT.imp (pt_truth h ?_) fun σ H Q ⟨σd, h, Qd, Xd, er, hr, w, n, x⟩ => ?_
  · intro whole
    unfold PySem.isTrue
    split <;> first | rfl | cases g
  · refine ⟨σd, h, _, Xd, er, hr, w, fun d1 h1 v1 H1 q1 r1 hr1 t1 => ?_, x⟩
    obtain ⟨t, et, q⟩ := n _ _ _ q1 hr1 t1
    exact ⟨t, tru_of hr1 r1 et, q⟩
theorem t_not (ha : PT X a (TTd (XF X) Ec ma)) : PT X (.UnaryOp .Not a pos) (TTd (XF X) Ec (.not ma)) :=
  PT.imp (pt_not ha) fun σ H Q ⟨σd, h, Qd, Xd, er, hr, w, n, x⟩ => by
    rw [wpE] at w
    refine ⟨σd, h, _, Xd, er, hr, w, fun d h1 H1 q hr1 t1 => ?_, x⟩
    obtain ⟨t, et, q⟩ := q
    obtain ⟨t', et', q⟩ := n _ _ _ q hr1 t1
    cases et'
    exact ⟨t, et, q⟩
theorem t_and {r : List Expr} (ha : PT X a (TTd (XF X) Ec ma)) (hb : PW X (.BoolOp .And (b :: r) pos) (TTd (XF X) Ec mb)) : PW X (.BoolOp .And (a :: b :: r) pos) (TTd (XF X) Ec (.and ma mb)) := by
  have key : ∀ σ H Q, TTd (XF X) Ec (.and ma mb) σ H Q → tAnd (TTd (XF X) Ec ma) (TTd (XF X) Ec mb) σ H Q := fun σ H Q ⟨σd, h, Qd, Xd, er, hr, w, n, x⟩ => by
    rw [wpE] at w
    refine ⟨σd, h, _, Xd, er, hr, w, fun d h1 H1 q hr1 t1 => ?_, x⟩
    obtain ⟨t, et, q⟩ := q
    refine ⟨t, et, ?_⟩
    cases t with
    | true => exact ⟨σd, h1, _, Xd, er.mono t1, hr1, q, fun d h2 H2 q hr2 t2 => n _ _ _ q hr2 (t1.trans t2), x.mono t1⟩
    | false =>
      obtain ⟨t', et', q⟩ := n _ _ _ q hr1 t1
      rw [et] at et'; cases et'
      exact q
  exact ⟨fun wh pins s σ H Q I q => (pw_and ha hb).run wh pins s σ H Q I (key σ H Q q)⟩
theorem t_or {r : List Expr} (ha : PT X a (TTd (XF X) Ec ma)) (hb : PW X (.BoolOp .Or (b :: r) pos) (TTd (XF X) Ec mb)) : PW X (.BoolOp .Or (a :: b :: r) pos) (TTd (XF X) Ec (.or ma mb)) := by
  have key : ∀ σ H Q, TTd (XF X) Ec (.or ma mb) σ H Q → tOr (TTd (XF X) Ec ma) (TTd (XF X) Ec mb) σ H Q := fun σ H Q ⟨σd, h, Qd, Xd, er, hr, w, n, x⟩ => by
    rw [wpE] at w
    refine ⟨σd, h, _, Xd, er, hr, w, fun d h1 H1 q hr1 t1 => ?_, x⟩
    obtain ⟨t, et, q⟩ := q
    refine ⟨t, et, ?_⟩
    cases t with
    | false => exact ⟨σd, h1, _, Xd, er.mono t1, hr1, q, fun d h2 H2 q hr2 t2 => n _ _ _ q hr2 (t1.trans t2), x.mono t1⟩
    | true =>
      obtain ⟨t', et', q⟩ := n _ _ _ q hr1 t1
      rw [et] at et'; cases et'
      exact q
  exact ⟨fun wh pins s σ H Q I q => (pw_or ha hb).run wh pins s σ H Q I (key σ H Q q)⟩
def tIteT (tc t u : TT) : TT := fun σ H Q => tc σ H fun k H1 => if k = true then t σ H1 Q else u σ H1 Q
theorem pt_ite {tc t u : TT} (hc : PT X c tc) (ha : PT X a t) (hb : PT X b u) : PT X (.IfExp c a b pos) (tIteT tc t u) := by
  refine ⟨fun pins s σ H Q I h => ?_⟩
  have e : PySem.isTrue (.IfExp c a b pos) X.env (eval (.IfExp c a b pos) X.env) = (do
    if ← PySem.isTrue c X.env (eval c X.env) then PySem.isTrue a X.env (eval a X.env) else PySem.isTrue b X.env (eval b X.env)) := by
    rw [PySem.isTrue]
  rw [e]
  refine wpAny_bind (thn (hc.run pins s σ H _ I h) fun k s1 ⟨H1, I1, q1⟩ => ?_)
  cases k with
  | true => exact ha.run pins s1 σ H1 Q I1 q1
  | false => exact hb.run pins s1 σ H1 Q I1 q1
theorem t_ite (hc : PT X c (TTd (XF X) Ec mc)) (ha : PT X a (TTd (XF X) Ec ma)) (hb : PT X b (TTd (XF X) Ec mb)) : PT X (.IfExp c a b pos) (TTd (XF X) Ec (.ite mc ma mb)) :=
  PT.imp (pt_ite hc ha hb) fun σ H Q ⟨σd, h, Qd, Xd, er, hr, w, n, x⟩ => by
    rw [wpE] at w
    refine ⟨σd, h, _, Xd, er, hr, w, fun d h1 H1 q hr1 t1 => ?_, x⟩
    obtain ⟨t, et, q⟩ := q
    refine ⟨t, et, ?_⟩
    cases t with
    | true => exact ⟨σd, h1, Qd, Xd, er.mono t1, hr1, q, fun d h2 H2 q hr2 t2 => n _ _ _ q hr2 (t1.trans t2), x.mono t1⟩
    | false => exact ⟨σd, h1, Qd, Xd, er.mono t1, hr1, q, fun d h2 H2 q hr2 t2 => n _ _ _ q hr2 (t1.trans t2), x.mono t1⟩
theorem c_none : PTs X [] (TCd (XF X) Ec .none) := ⟨fun pins s σ H Q I ⟨σd, h, Qd, Xd, er, hr, w, n, x⟩ => pts_nil.run pins s σ H Q I (by rw [wpC] at w; exact n _ _ _ w hr (Tst.refl _))⟩
theorem c_some {m : E} (h : PT X a (TTd (XF X) Ec m)) : PTs X [a] (TCd (XF X) Ec (.some m)) := ⟨fun pins s σ H Q I ⟨σd, h', Qd, Xd, er, hr, w, n, x⟩ => (pts_one h).run pins s σ H Q I (by
  rw [wpC] at w
  refine ⟨σd, h', _, Xd, er, hr, w, fun d h1 H1 q hr1 t1 => ?_, x⟩
  obtain ⟨t, et, q⟩ := q
  exact ⟨t, et, n _ _ _ q hr1 t1⟩)⟩
end
end Mp
/-! Expressions: one theorem. -/
namespace Mp
open PySem PySem.Spec L2
structure Both (Ec : XK) (X : Cx) (e : Expr) (m : E) : Prop where
  pe : PE X e (TEd (XF X) Ec m)
  pt : PT X e (TTd (XF X) Ec m)
  pw : ∀ o vs pos, e = .BoolOp o vs pos → PW X e (TTd (XF X) Ec m)
theorem Both.plain {Ec : XK} {X : Cx} {e : Expr} {m : E} (h : PE X e (TEd (XF X) Ec m)) (g : plainT e = true) : Both Ec X e m :=
  ⟨h, t_plain h g, fun o vs pos z => by subst z; cases g⟩
theorem Cor.blk {T : Tx} {Ec : XK} {X : Cx} (cor : Cor T Ec X) (s : Shared) (H : Hp) (scope : Scope) (env : Env) (fp : List Addr) : Cor T E0 (X.blk s H scope env fp) where
  N := cor.N
  nd := cor.nd
  calm := cor.calm
  hu := cor.hu
  gc := cor.gc
  bi := cor.bi
  fn := fun x F h => by
    obtain ⟨CX, k, f, fd, ps, h1, h2, h3, h4, h5, h6, h7⟩ := cor.fn x F h
    exact ⟨CX, k, f, fd, ps, h1, h2, h3, h4, h5, h7 _, h7⟩
  cl := cor.cl
  mt := fun c m F h => by
    obtain ⟨CX, k, f, fd, ps, C, h1, h2, h3, h4, h5, h6, h7, h8⟩ := cor.mt c m F h
    exact ⟨CX, k, f, fd, ps, C, h1, h2, h3, h4, h5, h6, h8 _, h8⟩
  ini := fun c F h => by
    obtain ⟨CX, k, f, fd, ps, C, h1, h2, h3, h4, h5, h6, h7, h8⟩ := cor.ini c F h
    exact ⟨CX, k, f, fd, ps, C, h1, h2, h3, h4, h5, h6, h8 _, h8⟩
theorem locB_rel {sc scope : Scope} {x : Str} (h : locB scope x = true) : Loc (relS scope sc) x ∧ ((scope.names.lookup x == some .cell) = true ∨ (relS scope sc).names.lookup x = some .local) := by
  rcases loc_1 h with e | e
  · have := lookup_relS_keep (sc := sc) (by decide) e
    exact ⟨.inl this, .inr this⟩
  · have := lookup_relS_keep (sc := sc) (by decide) e
    exact ⟨.inr this, .inl (by rw [e]; decide)⟩
theorem bi_1 {T : Tx} {Ec : XK} {X : Cx} (cor : Cor T Ec X) {x : Str} (h : decide (x ∈ biNames) = true) : X.mg x = none := cor.bi x (by simpa using h)
theorem goods {T : Tx} {sc : Scope} : ∀ {m : As} {es : List Expr}, chkA T m sc es = true → es.all good = true ∧ (es = [] → m = .nil)
  | .nil, [], _ => ⟨rfl, fun _ => rfl⟩
  | .cons e es, e' :: es', h => by
    unfold chkA at h
    simp only [Bool.and_eq_true] at h
    refine ⟨?_, fun z => by cases z⟩
    rw [List.all_cons, Bool.and_eq_true]
    exact ⟨good_of h.1, (goods h.2).1⟩
  | .nil, _ :: _, h => by cases h
  | .cons _ _, [], h => by cases h
theorem own_all {t : Tg} {own : List Nat} (h : (tgs t).all own.contains = true) : ∀ i ∈ tgs t, i ∈ own := fun i hi => by
  have := List.all_eq_true.mp h i hi
  simpa using this
theorem isTup_1 {e : Expr} (h : isTup e = true) : ∃ es k p, e = .Tuple es k p := by
  cases e <;> first | exact ⟨_, _, _, rfl⟩ | cases h
set_option maxHeartbeats 4000000 in
mutual
theorem sE {T : Tx} : ∀ (m : E) {Ec : XK} {X : Cx} (cor : Cor T Ec X) (e : Expr), chkE T m X.env.scope e = true → CallsE T m → Both Ec X e m
  | .lit l, Ec, X, cor, e, h, hc => by
    unfold chkE at h
    split at h
    · exact .plain (s_lit (by simpa using h)) rfl
    · simp only [Bool.and_eq_true] at h
      obtain ⟨⟨h1, h2⟩, h3⟩ := h
      split at h3
      · rename_i l' e'
        obtain ⟨u, hu, ru⟩ := cor.gc _ _ e'
        obtain rfl : l' = l := by simpa using h3
        exact .plain (s_gc (gli_1 h1) hu ru (nodbg_1 h2).1) rfl
      · cases h3
    · cases h
  | .var i, Ec, X, cor, e, h, hc => by
    unfold chkE at h
    split at h
    · simp only [Bool.and_eq_true, decide_eq_true_eq] at h
      exact .plain (s_var (by rw [cor.N]; exact h.1.1) (vis_1 h.1.2) (nodbg_1 h.2).1 (nodbg_1 h.2).2) rfl
    · cases h
  | .bin op a b, Ec, X, cor, e, h, hc => by
    unfold chkE at h
    split at h
    · simp only [Bool.and_eq_true, decide_eq_true_eq] at h
      obtain ⟨⟨rfl, ha⟩, hb⟩ := h
      exact .plain (s_bin (sE a cor _ ha hc.1).pe (sE b cor _ hb hc.2).pe) rfl
    · cases h
  | .neg a, Ec, X, cor, e, h, hc => by
    unfold chkE at h
    split at h
    · exact .plain (s_neg (sE a cor _ h hc).pe) rfl
    · cases h
  | .not a, Ec, X, cor, e, h, hc => by
    unfold chkE at h
    split at h
    · have ih := sE a cor _ h hc
      exact ⟨s_not ih.pe, t_not ih.pt, fun o vs pos z => by cases z⟩
    · cases h
  | .and a b, Ec, X, cor, e, h, hc => by
    unfold chkE at h
    split at h
    · simp only [Bool.and_eq_true] at h
      have iha := sE a cor _ h.1 hc.1
      have ihb := sE b cor _ h.2 hc.2
      have w := t_and iha.pt (pw_and1 (pos := ‹Pos›) ihb.pt)
      exact ⟨s_and iha.pe (pe_one ihb.pe), w.pt, fun o vs pos z => w⟩
    · simp only [Bool.and_eq_true] at h
      have iha := sE a cor _ h.1 hc.1
      have ihb := sE b cor _ h.2 hc.2
      have w := t_and iha.pt (ihb.pw _ _ _ rfl)
      exact ⟨s_and iha.pe ihb.pe, w.pt, fun o vs pos z => w⟩
    · cases h
  | .or a b, Ec, X, cor, e, h, hc => by
    unfold chkE at h
    split at h
    · simp only [Bool.and_eq_true] at h
      have iha := sE a cor _ h.1 hc.1
      have ihb := sE b cor _ h.2 hc.2
      have w := t_or iha.pt (pw_or1 (pos := ‹Pos›) ihb.pt)
      exact ⟨s_or iha.pe (pe_one ihb.pe), w.pt, fun o vs pos z => w⟩
    · simp only [Bool.and_eq_true] at h
      have iha := sE a cor _ h.1 hc.1
      have ihb := sE b cor _ h.2 hc.2
      have w := t_or iha.pt (ihb.pw _ _ _ rfl)
      exact ⟨s_or iha.pe ihb.pe, w.pt, fun o vs pos z => w⟩
    · cases h
  | .cmp op a b, Ec, X, cor, e, h, hc => by
    unfold chkE at h
    split at h
    · simp only [Bool.and_eq_true, decide_eq_true_eq] at h
      obtain ⟨⟨rfl, ha⟩, hb⟩ := h
      have iha := sE a cor _ ha hc.1
      have ihb := sE b cor _ hb hc.2
      exact ⟨s_cmp cor.hu iha.pe ihb.pe (good_of hb), t_cmp cor.hu iha.pe ihb.pe (good_of hb), fun o vs pos z => by cases z⟩
    · cases h
  | .chain op op2 a b c, Ec, X, cor, e, h, hc => by
    unfold chkE at h
    split at h
    · simp only [Bool.and_eq_true, decide_eq_true_eq] at h
      obtain ⟨⟨⟨⟨rfl, rfl⟩, ha⟩, hb⟩, hcc⟩ := h
      have iha := sE a cor _ ha hc.1
      have ihb := sE b cor _ hb hc.2.1
      have ihc := sE c cor _ hcc hc.2.2
      exact ⟨s_chain cor.hu iha.pe ihb.pe ihc.pe (good_of hcc), t_chain cor.hu iha.pe ihb.pe ihc.pe (good_of hcc), fun o vs pos z => by cases z⟩
    · cases h
  | .ite c a b, Ec, X, cor, e, h, hc => by
    unfold chkE at h
    split at h
    · simp only [Bool.and_eq_true] at h
      obtain ⟨⟨hcc, ha⟩, hb⟩ := h
      have ihc := sE c cor _ hcc hc.1
      have iha := sE a cor _ ha hc.2.1
      have ihb := sE b cor _ hb hc.2.2
      exact ⟨s_ite ihc.pt iha.pe ihb.pe, t_ite ihc.pt iha.pt ihb.pt, fun o vs pos z => by cases z⟩
    · cases h
  | .tup es, Ec, X, cor, e, h, hc => by
    unfold chkE at h
    split at h
    · exact .plain (s_tup (sA es cor _ h hc)) rfl
    · cases h
  | .lst es, Ec, X, cor, e, h, hc => by
    unfold chkE at h
    split at h
    · exact .plain (s_lst (sA es cor _ h hc)) rfl
    · cases h
  | .dnew, Ec, X, cor, e, h, hc => by
    unfold chkE at h
    split at h
    · exact .plain s_dnew rfl
    · cases h
  | .dnewT, Ec, X, cor, e, h, hc => by
    unfold chkE at h
    split at h
    · exact .plain s_dnewT rfl
    · cases h
  | .ddisT k v, Ec, X, cor, e, h, hc => by
    unfold chkE at h
    split at h
    · simp only [Bool.and_eq_true] at h
      exact .plain (s_ddisT cor.hu (sE k cor _ h.1 hc.1).pe (sE v cor _ h.2 hc.2).pe) rfl
    · cases h
  | .dget o k d, Ec, X, cor, e, h, hc => by
    unfold chkE at h
    split at h
    · simp only [Bool.and_eq_true, decide_eq_true_eq] at h
      obtain ⟨⟨⟨⟨⟨⟨rfl, hl⟩, hr⟩, ho⟩, hk⟩, hl1⟩, hd⟩ := h
      exact .plain (s_dget cor.hu (sE o cor _ ho hc.1).pe (sE k cor _ hk hc.2.1).pe (good_of hk) (sA d cor _ hd hc.2.2) (goods hd).1 hl1 hr hl) rfl
    · cases h
  | .fld c o f, Ec, X, cor, e, h, hc => by
    unfold chkE at h
    split at h
    · simp only [Bool.and_eq_true, decide_eq_true_eq] at h
      obtain ⟨⟨⟨rfl, hf⟩, hr⟩, ho⟩ := h
      obtain ⟨C, h1, h2, h3⟩ := cor.cl _ _ hf
      exact .plain (s_fld (sE o cor _ ho hc).pe hr h1 h2 h3) rfl
    · cases h
  | .new c F es, Ec, X, cor, e, h, hc => by
    unfold chkE at h
    split at h
    · simp only [Bool.and_eq_true, decide_eq_true_eq] at h
      obtain ⟨⟨⟨rfl, hg⟩, hd⟩, ha⟩ := h
      obtain ⟨CX, k, f, fd, ps, C, h1, h2, h3, h4, h5, h6, h7, h8⟩ := cor.ini _ F hc.1
      exact .plain (s_new h1 h2 h4 h5 (gli_1 hg) h3 h6 h7 (nodbg_1 hd).1 (sA es cor _ ha hc.2) (goods ha).1 (goods ha).2) rfl
    · cases h
  | .mcall c m F o es, Ec, X, cor, e, h, hc => by
    unfold chkE at h
    split at h
    · simp only [Bool.and_eq_true, decide_eq_true_eq] at h
      obtain ⟨⟨⟨⟨⟨rfl, hl⟩, hr⟩, hn⟩, ho⟩, ha⟩ := h
      obtain ⟨CX, k, f, fd, ps, C, h1, h2, h3, h4, h5, h6, h7, h8⟩ := cor.mt c _ F hc.1
      exact .plain (s_mcall h1 h2 h3 h4 h5 h6 h7 (sE o cor _ ho hc.2.1).pe hr hl hn (sA es cor _ ha hc.2.2) (goods ha).1 (goods ha).2) rfl
    · cases h
  | .idx a i, Ec, X, cor, e, h, hc => by
    unfold chkE at h
    split at h
    · simp only [Bool.and_eq_true] at h
      exact .plain (s_idx cor.hu (sE a cor _ h.1 hc.1).pe (sE i cor _ h.2 hc.2).pe (good_of h.2)) rfl
    · cases h
  | .slc a lo hi, Ec, X, cor, e, h, hc => by
    unfold chkE at h
    split at h
    · simp only [Bool.and_eq_true] at h
      exact .plain (s_slc (sE a cor _ h.1.1 hc.1).pe (sO lo cor _ h.1.2 hc.2.1) (sO hi cor _ h.2 hc.2.2)) rfl
    · cases h
  | .call x F es, Ec, X, cor, e, h, hc => by
    unfold chkE at h
    split at h
    · simp only [Bool.and_eq_true, decide_eq_true_eq] at h
      obtain ⟨⟨⟨rfl, hg⟩, hd⟩, ha⟩ := h
      obtain ⟨CX, k, f, fd, ps, h1, h2, h3, h4, h5, h6, h7⟩ := cor.fn x F hc.1
      exact .plain (s_call h1 h2 (gli_1 hg) h3 h4 h5 h6 (nodbg_1 hd).1 x (sA es cor _ ha hc.2) (goods ha).1 (goods ha).2) rfl
    · cases h
  | .bf f es, Ec, X, cor, e, h, hc => by
    unfold chkE at h
    split at h
    · rename_i x' es' p1 p2
      simp only [Bool.and_eq_true, decide_eq_true_eq] at h
      obtain ⟨⟨rfl, hg⟩, h⟩ := h
      cases f with
      | isi c =>
        simp only at h
        split at h
        · simp only [Bool.and_eq_true, decide_eq_true_eq, Bool.not_eq_true', decide_eq_false_iff_not] at h
          obtain ⟨⟨⟨rfl, hg2⟩, hn⟩, ha⟩ := h
          cases es with
          | nil => cases ha
          | cons m1 ms =>
            cases ms with
            | cons _ _ => unfold chkA at ha; simp only [Bool.and_eq_true] at ha; unfold chkA at ha; cases ha.2
            | nil =>
              have ha1 := ha
              unfold chkA at ha1
              simp only [Bool.and_eq_true] at ha1
              have ih := (sE m1 cor _ ha1.1 hc.1).pe
              have hm := bi_1 cor (x := "isinstance") (by decide +kernel)
              cases c <;> first | exact absurd rfl hn | exact .plain (s_isi (gli_1 hg) hm (gli_1 hg2) (bi_1 cor (by decide +kernel)) (by decide +kernel) (by decide) (by decide) ih (good_of ha1.1)) rfl
        · cases h
      | items =>
        simp only at h
        split at h
        · rename_i o apos cpos m1
          simp only [Bool.and_eq_true, decide_eq_true_eq] at h
          obtain ⟨⟨⟨rfl, hl⟩, hr⟩, ho⟩ := h
          exact .plain (s_items cor.calm (sE m1 cor _ ho hc.1).pe (gli_1 hg) (bi_1 cor (by decide +kernel)) hr hl) rfl
        · cases h
      | str =>
        simp only at h
        split at h
        · exact .plain (s_bfT of_str (gli_1 hg) (bi_1 cor (by decide +kernel)) (by decide +kernel) (by decide) (by decide) (sA es cor _ h hc) (by simpa using (goods h).1)) rfl
        · cases h
      | sorted =>
        simp only at h
        split at h
        · have hu := cor.hu
          exact .plain (s_bfB (of_sorted cor.calm (by omega)) (gli_1 hg) (bi_1 cor (by decide +kernel)) (by decide +kernel) (by decide) (by decide) (sA es cor _ h hc) (by simpa using (goods h).1)) rfl
        · cases h
      | len =>
        simp only at h
        split at h
        · exact .plain (s_bfB of_len (gli_1 hg) (bi_1 cor (by decide +kernel)) (by decide +kernel) (by decide) (by decide) (sA es cor _ h hc) (by simpa using (goods h).1)) rfl
        · cases h
      | abs =>
        simp only at h
        split at h
        · exact .plain (s_bfB of_abs (gli_1 hg) (bi_1 cor (by decide +kernel)) (by decide +kernel) (by decide) (by decide) (sA es cor _ h hc) (by simpa using (goods h).1)) rfl
        · cases h
      | min =>
        simp only at h
        split at h
        · have hu := cor.hu
          exact .plain (s_bfB (of_min cor.calm (by omega)) (gli_1 hg) (bi_1 cor (by decide +kernel)) (by decide +kernel) (by decide) (by decide) (sA es cor _ h hc) (by simpa using (goods h).1)) rfl
        · cases h
      | all =>
        simp only at h
        split at h
        · exact .plain (s_bfB (of_all cor.calm) (gli_1 hg) (bi_1 cor (by decide +kernel)) (by decide +kernel) (by decide) (by decide) (sA es cor _ h hc) (by simpa using (goods h).1)) rfl
        · cases h
      | any =>
        simp only at h
        split at h
        · exact .plain (s_bfB (of_any cor.calm) (gli_1 hg) (bi_1 cor (by decide +kernel)) (by decide +kernel) (by decide) (by decide) (sA es cor _ h hc) (by simpa using (goods h).1)) rfl
        · cases h
      | int =>
        simp only at h
        split at h
        · exact .plain (s_bfT of_int (gli_1 hg) (bi_1 cor (by decide +kernel)) (by decide +kernel) (by decide) (by decide) (sA es cor _ h hc) (by simpa using (goods h).1)) rfl
        · cases h
      | tuple =>
        simp only at h
        split at h
        · exact .plain (s_bfT of_tuple (gli_1 hg) (bi_1 cor (by decide +kernel)) (by decide +kernel) (by decide) (by decide) (sA es cor _ h hc) (by simpa using (goods h).1)) rfl
        · cases h
      | list =>
        simp only at h
        split at h
        · exact .plain (s_bfT of_list (gli_1 hg) (bi_1 cor (by decide +kernel)) (by decide +kernel) (by decide) (by decide) (sA es cor _ h hc) (by simpa using (goods h).1)) rfl
        · cases h
    · cases h
  | .meth m o es, Ec, X, cor, e, h, hc => by
    unfold chkE at h
    split at h
    · simp only [Bool.and_eq_true, decide_eq_true_eq] at h
      obtain ⟨⟨⟨⟨rfl, hl⟩, hr⟩, ho⟩, ha⟩ := h
      have hu := cor.hu
      have iho := (sE o cor _ ho hc.1).pe
      split at ha
      · simp only [Bool.and_eq_true, decide_eq_true_eq] at ha
        obtain ⟨hnp, ha⟩ := ha
        cases es with
        | nil => cases ha
        | cons m1 ms =>
          cases ms with
          | cons _ _ => unfold chkA at ha; simp only [Bool.and_eq_true] at ha; unfold chkA at ha; cases ha.2
          | nil =>
            unfold chkA at ha
            simp only [Bool.and_eq_true] at ha
            have ih := (sE m1 cor _ ha.1 hc.2.1).pe
            cases m with
            | pop => exact absurd rfl hnp
            | count => exact .plain (s_meth (m := .count) PySem.F.plainAttrs_list PySem.F.slot_list_count PySem.F.type_list_count (om_count (by omega)) iho ih (good_of ha.1) hr hl) rfl
            | index => exact .plain (s_meth (m := .index) PySem.F.plainAttrs_list PySem.F.slot_list_index PySem.F.type_list_index (om_index (by omega)) iho ih (good_of ha.1) hr hl) rfl
            | append => exact .plain (s_meth (m := .append) PySem.F.plainAttrs_list PySem.F.slot_list_append PySem.F.type_list_append om_append iho ih (good_of ha.1) hr hl) rfl
            | extend => exact .plain (s_meth (m := .extend) PySem.F.plainAttrs_list PySem.F.slot_list_extend PySem.F.type_list_extend om_extend iho ih (good_of ha.1) hr hl) rfl
            | update => exact .plain (s_meth (m := .update) PySem.F.plainAttrs_dict PySem.F.slot_dict_update PySem.F.type_dict_update om_update iho ih (good_of ha.1) hr hl) rfl
      · simp only [Bool.and_eq_true, decide_eq_true_eq] at ha
        obtain ⟨hp, ha⟩ := ha
        subst hp
        cases es with
        | cons _ _ => cases ha
        | nil => exact .plain (s_pop iho hr hl) rfl
      · cases ha
    · cases h
  | .comp own t it c e1, Ec, X, cor, e, h, hc => by
    unfold chkE at h
    split at h
    · rename_i e' tg iter ifs scope pos
      simp only [Bool.and_eq_true] at h
      obtain ⟨⟨⟨⟨⟨⟨hi, hg⟩, hb⟩, ho⟩, ht⟩, hcc⟩, he⟩ := h
      have ok : BlkOk X.N X.env.scope scope (ownN T own) := by rw [cor.N]; exact blkOk_by hb
      refine .plain (PE.imp (pe_lc (g := TGd (XF X) t) (tt := TCd (XF X) E0 c) (te := TEd (XF X) E0 e1) cor.calm cor.nd (sI it cor tg iter hi hc.1) ok (fun s H C cl fp => (sT (X := X.blk s H scope (compEnvC scope cl C X.env) fp) (sc := scope) cor.N cor.nd cor.calm (fun x hx => locB_rel hx) t).1 tg ht)
        (fun s H C cl fp => sC c (cor.blk s H scope (compEnvC scope cl C X.env) fp) ifs hcc hc.2.1) (fun s H C cl fp => (sE e1 (cor.blk s H scope (compEnvC scope cl C X.env) fp) e' he hc.2.2).pe) (good_fold hg _)) fun σ H Q q => ?_) rfl
      rw [own_2]
      exact lc_to (own_all ho) q
    · cases h
  | .dcomp own t it c k v, Ec, X, cor, e, h, hc => by
    unfold chkE at h
    split at h
    · rename_i k' v' tg iter ifs scope pos
      simp only [Bool.and_eq_true] at h
      obtain ⟨⟨⟨⟨⟨⟨⟨hi, hg⟩, hb⟩, ho⟩, ht⟩, hcc⟩, hk⟩, hv⟩ := h
      have ok : BlkOk X.N X.env.scope scope (ownN T own) := by rw [cor.N]; exact blkOk_by hb
      refine .plain (PE.imp (pe_dc (g := TGd (XF X) t) (tt := TCd (XF X) E0 c) (tk := TEd (XF X) E0 k) (tv := TEd (XF X) E0 v) cor.calm cor.nd (sI it cor tg iter hi hc.1) ok (fun s H C cl fp => (sT (X := X.blk s H scope (compEnvC scope cl C X.env) fp) (sc := scope) cor.N cor.nd cor.calm (fun x hx => locB_rel hx) t).1 tg ht)
        (fun s H C cl fp => sC c (cor.blk s H scope (compEnvC scope cl C X.env) fp) ifs hcc hc.2.1) (fun s H C cl fp => (sE k (cor.blk s H scope (compEnvC scope cl C X.env) fp) k' hk hc.2.2.1).pe)
        (fun s H C cl fp => (sE v (cor.blk s H scope (compEnvC scope cl C X.env) fp) v' hv hc.2.2.2).pe) (good_fold hg _)) fun σ H Q q => ?_) rfl
      rw [own_2]
      exact dc_to (own_all ho) q
    · cases h
theorem sO {T : Tx} : ∀ (m : Op) {Ec : XK} {X : Cx} (cor : Cor T Ec X) (e : Option Expr), chkO T m X.env.scope e = true → CallsO T m → PO X e (TOd (XF X) Ec m)
  | .none, Ec, X, cor, e, h, hc => by
    cases e with
    | none => exact o_none
    | some e => cases h
  | .some m, Ec, X, cor, e, h, hc => by
    cases e with
    | none => cases h
    | some e => exact o_some (sE m cor e h hc).pe
theorem sC {T : Tx} : ∀ (m : Op) {Ec : XK} {X : Cx} (cor : Cor T Ec X) (es : List Expr), chkC T m X.env.scope es = true → CallsO T m → PTs X es (TCd (XF X) Ec m)
  | .none, Ec, X, cor, es, h, hc => by
    cases es with
    | nil => exact c_none
    | cons e es => cases h
  | .some m, Ec, X, cor, es, h, hc => by
    cases es with
    | nil => cases h
    | cons e es =>
      cases es with
      | nil => exact c_some (sE m cor e h hc).pt
      | cons _ _ => cases h
theorem sA {T : Tx} : ∀ (m : As) {Ec : XK} {X : Cx} (cor : Cor T Ec X) (es : List Expr), chkA T m X.env.scope es = true → CallsA T m → PA X es (TAd (XF X) Ec m)
  | .nil, Ec, X, cor, es, h, hc => by
    cases es with
    | nil => exact a_nil
    | cons e es => cases h
  | .cons m ms, Ec, X, cor, es, h, hc => by
    cases es with
    | nil => cases h
    | cons e es =>
      unfold chkA at h
      simp only [Bool.and_eq_true] at h
      exact a_cons (sE m cor e h.1 hc.1).pe (sA ms cor es h.2 hc.2) (good_of h.1)
theorem sI {T : Tx} : ∀ (m : It) {Ec : XK} {X : Cx} (cor : Cor T Ec X) (tg iter : Expr), chkI T m X.env.scope tg iter = true → CallsI T m → PI X tg iter (TId (XF X) Ec m)
  | .each m, Ec, X, cor, tg, iter, h, hc => i_each (sE m cor iter h hc).pe
  | .rng1 m, Ec, X, cor, tg, iter, h, hc => by
    unfold chkI at h
    split at h
    · simp only [Bool.and_eq_true, decide_eq_true_eq] at h
      obtain ⟨⟨rfl, hg⟩, h⟩ := h
      exact i_rng1 (gli_1 hg) (bi_1 cor (by decide +kernel)) (sE m cor _ h hc).pe (good_of h)
    · cases h
  | .rng2 m m2, Ec, X, cor, tg, iter, h, hc => by
    unfold chkI at h
    split at h
    · simp only [Bool.and_eq_true, decide_eq_true_eq] at h
      obtain ⟨⟨⟨rfl, hg⟩, h⟩, h2⟩ := h
      exact i_rng2 (gli_1 hg) (bi_1 cor (by decide +kernel)) (sE m cor _ h hc.1).pe (good_of h) (sE m2 cor _ h2 hc.2).pe (good_of h2)
    · cases h
  | .enum m, Ec, X, cor, tg, iter, h, hc => by
    unfold chkI at h
    split at h
    · simp only [Bool.and_eq_true, decide_eq_true_eq] at h
      obtain ⟨⟨⟨rfl, hg⟩, ht⟩, h⟩ := h
      obtain ⟨es, k, p, rfl⟩ := isTup_1 ht
      exact i_enum (gli_1 hg) (bi_1 cor (by decide +kernel)) (sE m cor _ h hc).pe (good_of h)
    · cases h
  | .zip m m2, Ec, X, cor, tg, iter, h, hc => by
    unfold chkI at h
    split at h
    · simp only [Bool.and_eq_true, decide_eq_true_eq] at h
      obtain ⟨⟨⟨⟨rfl, hg⟩, ht⟩, h⟩, h2⟩ := h
      obtain ⟨es, k, p, rfl⟩ := isTup_1 ht
      exact i_zip (gli_1 hg) (bi_1 cor (by decide +kernel)) (sE m cor _ h hc.1).pe (good_of h) (sE m2 cor _ h2 hc.2).pe (good_of h2)
    · cases h
end
end Mp
/-! Statements: the check and its soundness. -/
namespace Mp
open PySem PySem.Spec L2
/-- a value that may be stored into its name at once -/
def swp (sc : Scope) (x : Str) (p : Pos) : Expr → Bool
  | .ListComp _ _ s q => (sc.names.lookup x == some .local && p.line == q.line) && !(s.names.any fun (n, k) => n == x && (k == .local || k == .cell))
  | .SetComp _ _ s q => (sc.names.lookup x == some .local && p.line == q.line) && !(s.names.any fun (n, k) => n == x && (k == .local || k == .cell))
  | .DictComp _ _ _ s q => (sc.names.lookup x == some .local && p.line == q.line) && !(s.names.any fun (n, k) => n == x && (k == .local || k == .cell))
  | _ => false
theorem swp_ok {env : Env} {x : Str} {p : Pos} {e : Expr} {line : Nat} (hb : env.blockKind = .function) : swapsWith e (some (.Name x p)) line env = pure (swp env.scope x p e) := by
  have hk : env.kindOf x = env.scope.names.lookup x := rfl
  cases e <;> first
    | rfl
    | (unfold swapsWith swp; simp only [hb, hk]; rfl)
def isComp : Expr → Bool
  | .ListComp .. => true
  | .SetComp .. => true
  | .DictComp .. => true
  | _ => false
theorem swp_none {env : Env} {e : Expr} {line : Nat} (h : isComp e = false) : swapsWith e none line env = pure false := by
  cases e <;> first | rfl | cases h
theorem swp_tup {env : Env} {e : Expr} {es : List Expr} {k : Nat} {p : Pos} {line : Nat} : swapsWithSole [.Tuple es k p] e line env = pure false := by
  unfold swapsWithSole
  cases e <;> rfl
theorem swp_sub {env : Env} {e o i : Expr} {p : Pos} {line : Nat} : swapsWithSole [.Subscript o i p] e line env = pure false := by
  unfold swapsWithSole
  cases e <;> rfl
theorem swp_att {env : Env} {e o : Expr} {f : Str} {p : Pos} {line : Nat} (h : isComp e = false) : swapsWith e (some (.Attribute o f p)) line env = pure false := by
  cases e <;> first | rfl | cases h
/-- no plain local name -/
def offL (sc : Scope) : Expr → Bool
  | .Name x _ => !(sc.names.lookup x == some .local)
  | _ => true
/-- a tuple of names that takes a whole value -/
def noSwap (sc : Scope) (tg e : Expr) : Bool := match tg, e with
  | .Tuple ts _ _, .Tuple vs _ _ => (!(ts.length == 2 || ts.length == 3) || vs.length != ts.length) || ts.any (offL sc)
  | .Tuple .., .List .. => true
  | .Tuple .., _ => true
  | _, _ => false
theorem filterMap_lt {α β : Type} {f : α → Option β} : ∀ {xs : List α} {x : α}, x ∈ xs → f x = none → (xs.filterMap f).length < xs.length
  | y :: ys, x, h, e => by
    rcases List.mem_cons.mp h with rfl | h
    · rw [List.filterMap_cons, e]
      exact Nat.lt_succ_of_le (List.length_filterMap_le ..)
    · have ih := filterMap_lt h e
      rw [List.filterMap_cons]
      cases f y with
      | none => exact Nat.lt_succ_of_lt ih
      | some b => exact Nat.succ_lt_succ ih
theorem noSwap_ok {env : Env} {tg e : Expr} (h : noSwap env.scope tg e = true) : swappedStores [tg] e env = pure none := by
  unfold noSwap at h
  split at h
  · rename_i ts _ _ vs _ _
    rw [Bool.or_eq_true] at h
    unfold swappedStores
    rcases h with h | h
    · have h' : (!(ts.length == 2 || ts.length == 3) || vs.length != ts.length || env.blockKind != .function) = true := by rw [h]; rfl
      simp only [h', if_true]
    · obtain ⟨x, hx, ho⟩ := List.any_eq_true.mp h
      dsimp only
      split
      · rfl
      · split
        · rfl
        · rw [if_pos]
          rw [Bool.or_eq_true]
          refine .inl ?_
          rw [bne_iff_ne]
          refine Nat.ne_of_lt (filterMap_lt hx ?_)
          cases x <;> first
            | rfl
            | (rename_i id pos
               have ho' : (env.kindOf id == some .local) = false := by
                 unfold offL at ho
                 have hk : env.kindOf id = env.scope.names.lookup id := rfl
                 rw [hk]
                 simpa using ho
               simp [ho'])
  · rfl
  · rename_i hn _
    cases e <;> first | rfl | exact (hn _ _ _ rfl).elim
  · cases h
def litA : As → Option (List D)
  | .nil => some []
  | .cons (.lit l) es => (litA es).map (l.d :: ·)
  | _ => none
theorem litA_wp : ∀ {es : As} {ds : List D} {σ : En} {h : Hh} {X : PX} {Q : List D → Hh → Prop}, litA es = some ds → wpA es σ h X Q → Q ds h
  | .nil, ds, σ, h, X, Q, e, w => by cases e; rw [wpA] at w; exact w
  | .cons (.lit l) es, ds, σ, h, X, Q, e, w => by
    unfold litA at e
    cases q : litA es with
    | none => rw [q] at e; cases e
    | some ds' =>
      rw [q] at e
      cases e
      rw [wpA, wpE] at w
      exact litA_wp (Q := fun ds h => Q (l.d :: ds) h) q w
def parB (T : Tx) (sc : Scope) : List Nat → List Expr → Bool
  | [i, j], [.Name x px, .Name y py] => decide (T.N[i]? = some x) && decide (T.N[j]? = some y) && decide (sc.names.lookup x = some .local) && decide (sc.names.lookup y = some .local) && decide (i ≠ j) && decide (x ≠ y) && decide (px.line = py.line)
  | [i, j, l], [.Name x px, .Name y py, .Name z pz] => decide (T.N[i]? = some x) && decide (T.N[j]? = some y) && decide (T.N[l]? = some z) && decide (sc.names.lookup x = some .local) && decide (sc.names.lookup y = some .local) && decide (sc.names.lookup z = some .local) &&
      decide (i ≠ j) && decide (i ≠ l) && decide (j ≠ l) && decide (x ≠ y) && decide (x ≠ z) && decide (y ≠ z) && decide (px.line = py.line) && decide (px.line = pz.line)
  | _, _ => false
def isStar : Expr → Bool
  | .Starred .. => true
  | _ => false
theorem good_ns {e : Expr} (g : good e = true) : isStar e = false := by
  cases e <;> first | rfl | cases g
section
variable {env : Env} {x y z : Str} {px py pz : Pos} {a b c : Expr} {kt k2 : Nat} {pt pt2 : Pos}
theorem par2_ok (hb : env.blockKind = .function) (hx : env.scope.names.lookup x = some .local) (hy : env.scope.names.lookup y = some .local) (hxy : x ≠ y) (hp : px.line = py.line)
    (ga : good a = true) (gb : good b = true) (f : [a, b].all (foldedForSure 8) = false) (c : [a, b].all (constantsAlone 8) = false) :
    swappedStores [.Tuple [.Name x px, .Name y py] kt pt] (.Tuple [a, b] k2 pt2) env = pure (some [x, y]) := by
  have hkx : env.kindOf x = some .local := hx
  have hky : env.kindOf y = some .local := hy
  have e2 : ∀ z pz, ((Expr.Name z pz).pos.line) = pz.line := fun _ _ => rfl
  have yx : (y == x) = false := by simpa using Ne.symm hxy
  unfold swappedStores
  simp only [hb]
  rw [if_neg (by simp), if_neg (by
    show ¬ (isStar a || (isStar b || false)) = true
    rw [good_ns ga, good_ns gb]
    decide)]
  simp only [List.filterMap_cons, List.filterMap_nil, List.head?_cons, Option.map_some, Option.getD_some, e2, hkx, hky, hp, beq_self_eq_true, Bool.and_self, if_true]
  rw [if_neg (by simp [List.eraseDups_cons, yx]), f, c]
  rfl
theorem par3_ok (hb : env.blockKind = .function) (hx : env.scope.names.lookup x = some .local) (hy : env.scope.names.lookup y = some .local) (hz : env.scope.names.lookup z = some .local) (hxy : x ≠ y) (hxz : x ≠ z) (hyz : y ≠ z) (hp : px.line = py.line) (hp2 : px.line = pz.line)
    (ga : good a = true) (gb : good b = true) (gc : good c = true) (f : [a, b, c].all (foldedForSure 8) = false) (cc : [a, b, c].all (constantsAlone 8) = false) :
    swappedStores [.Tuple [.Name x px, .Name y py, .Name z pz] kt pt] (.Tuple [a, b, c] k2 pt2) env = pure (some [x, y, z]) := by
  have hkx : env.kindOf x = some .local := hx
  have hky : env.kindOf y = some .local := hy
  have hkz : env.kindOf z = some .local := hz
  have e2 : ∀ z pz, ((Expr.Name z pz).pos.line) = pz.line := fun _ _ => rfl
  have yx : (y == x) = false := by simpa using Ne.symm hxy
  have zx : (z == x) = false := by simpa using Ne.symm hxz
  have zy : (z == y) = false := by simpa using Ne.symm hyz
  have h1 : (py.line == px.line) = true := by simp [hp]
  have h2 : (pz.line == px.line) = true := by simp [hp2]
  unfold swappedStores
  simp only [hb]
  rw [if_neg (by simp), if_neg (by
    show ¬ (isStar a || (isStar b || (isStar c || false))) = true
    rw [good_ns ga, good_ns gb, good_ns gc]
    decide)]
  simp only [List.filterMap_cons, List.filterMap_nil, List.head?_cons, Option.map_some, Option.getD_some, e2, hkx, hky, hkz, h1, h2, beq_self_eq_true, Bool.and_self, if_true]
  rw [if_neg (by simp [List.eraseDups_cons, yx, zx, zy]), f, cc]
  rfl
end
/-! ### the check -/
mutual
def chkS (T : Tx) : S → Scope → Stmt → Bool
  | .expr e, sc, st => match st with
    | .Expr e' _ => chkE T e sc e' && !isComp e'
    | _ => false
  | .asg t e, sc, st => match st with
    | .Assign [tg] e' _ => chkT T t sc (.inl tg) && chkE T e sc e' && (match tg with
      | .Name x p => (match e with
        | .comp .. => true
        | _ => !swp sc x p e')
      | _ => noSwap sc tg e')
    | _ => false
  | .par ts es, sc, st => match st with
    | .Assign [.Tuple ts' _ _] (.Tuple es' _ _) _ => parB T sc ts ts' && chkA T es sc es' && (es'.length == ts'.length) && !es'.all (foldedForSure 8) && !es'.all (constantsAlone 8)
    | _ => false
  | .asgIx o i e, sc, st => match st with
    | .Assign [.Subscript o' i' _] e' _ => chkE T e sc e' && chkE T o sc o' && chkE T i sc i'
    | _ => false
  | .fset c o f e, sc, st => match st with
    | .Assign [.Attribute o' f' _] e' _ => decide (f' = f) && attB T c f && chkE T e sc e' && chkE T o sc o' && !isComp e'
    | _ => false
  | .aug op i e, sc, st => match st with
    | .AugAssign (.Name x _) o' e' _ => decide (op.py = o') && (match op with | .add => true | .sub => true | _ => false) && decide (T.N[i]? = some x) && locB sc x && chkE T e sc e'
    | _ => false
  | .ret e, sc, st => match st with
    | .Return (some e') _ => chkE T e sc e'
    | .Return none _ => (match e with | .lit .non => true | _ => false)
    | _ => false
  | .ifs c a b, sc, st => match st with
    | .If c' a' b' _ => chkE T c sc c' && chkB T a sc a' && chkB T b sc b'
    | _ => false
  | .whl c b, sc, st => match st with
    | .While c' b' [] _ => chkE T c sc c' && chkB T b sc b'
    | _ => false
  | .for_ t it b, sc, st => match st with
    | .For tg iter b' [] _ => chkI T it sc tg iter && good iter && chkT T t sc (.inl tg) && chkB T b sc b'
    | _ => false
  | .raise c es, sc, st => match st with
    | .Raise (some (.Call (.Name x _) es' [] _)) none _ => decide (x = (c : Str)) && (litA es).isSome && chkA T es sc es'
    | _ => false
  | .pass, _, st => match st with
    | .Pass _ => true
    | _ => false
  | .brk, _, st => match st with
    | .Break _ => true
    | _ => false
  | .cont, _, st => match st with
    | .Continue _ => true
    | _ => false
def chkB (T : Tx) : B → Scope → List Stmt → Bool
  | .nil, _, ss => ss.isEmpty
  | .cons s b, sc, ss => match ss with
    | st :: rest => chkS T s sc st && chkB T b sc rest
    | _ => false
end
mutual
def CallsS (T : Tx) : S → Prop
  | .expr e | .asg _ e | .aug _ _ e | .ret e => CallsE T e
  | .par _ es | .raise _ es => CallsA T es
  | .asgIx o i e => CallsE T o ∧ CallsE T i ∧ CallsE T e
  | .fset _ o _ e => CallsE T o ∧ CallsE T e
  | .ifs c a b => CallsE T c ∧ CallsB T a ∧ CallsB T b
  | .whl c b => CallsE T c ∧ CallsB T b
  | .for_ _ it b => CallsI T it ∧ CallsB T b
  | .pass | .brk | .cont => True
def CallsB (T : Tx) : B → Prop
  | .nil => True
  | .cons s b => CallsS T s ∧ CallsB T b
end
/-! ### readings -/
structure PCl (K : Frag) (P : Po) (D : Ends) (H : Hp) : Prop where
  nx : ∀ σd h' σ H', P.nx σd h' → ERep K H' σd σ → HRep K h' H' → Tst H H' → D.nx σ H'
  bk : ∀ σd h' σ H', P.bk σd h' → ERep K H' σd σ → HRep K h' H' → Tst H H' → D.bk σ H'
  ct : ∀ σd h' σ H', P.ct σd h' → ERep K H' σd σ → HRep K h' H' → Tst H H' → D.ct σ H'
  rt : NCl K P.rt D.rt H
theorem PCl.mono {K : Frag} {P : Po} {D : Ends} {H H' : Hp} (n : PCl K P D H) (t : Tst H H') : PCl K P D H' :=
  ⟨fun _ _ _ _ a b c d => n.nx _ _ _ _ a b c (t.trans d), fun _ _ _ _ a b c d => n.bk _ _ _ _ a b c (t.trans d), fun _ _ _ _ a b c d => n.ct _ _ _ _ a b c (t.trans d), n.rt.mono t⟩
def TSd (K : Frag) (Ec : XK) (s : S) : TS := fun D σ H => ∃ σd h P Xd, ERep K H σd σ ∧ HRep K h H ∧ wpS s σd h Xd P ∧ PCl K P D H ∧ XCl K Ec Xd H
def TBd (K : Frag) (Ec : XK) (b : B) : TS := fun D σ H => ∃ σd h P Xd, ERep K H σd σ ∧ HRep K h H ∧ wpB b σd h Xd P ∧ PCl K P D H ∧ XCl K Ec Xd H
/-- o[i] = v -/
def setD (o i v : D) (h : Hh) (Q : Hh → Prop) : Prop := match o with
  | .ref a => match h a with
    | some (.lst xs) => asInt i fun k => ∃ j, L2.ixN xs.length k = some j ∧ Q (up h a (.lst (xs.set j v)))
    | some (.dct kvs) => isKey i = true ∧ kvs.length < sz ∧ Q (up h a (.dct (stor kvs i v)))
    | some (.dcT kvs) => isKeyT i = true ∧ kvs.length < sz ∧ Q (up h a (.dcT (stor kvs i v)))
    | _ => False
  | _ => False
def rSt (K : Frag) : TSet := fun o i v H Q => ∃ dx dy d h, ∃ (Qh : Hh → Prop), Rep K H dx o ∧ Rep K H dy i ∧ Rep K H d v ∧ HRep K h H ∧ setD dx dy d h Qh ∧ ∀ h' H', Qh h' → HRep K h' H' → Tst H H' → Q H'
section
variable {X : Cx}
theorem set_ok (hu : X.A.units + 64 < cLine) : PSet X (rSt (XF X)) := by
  intro pins s σ H o i v ov iv u Q I ro ri rv ⟨dx, dy, d, h, Qh, r1, r2, r3, hr, w, n⟩
  unfold setD at w
  split at w
  · rename_i a
    split at w
    · rename_i xs e
      obtain ⟨k, rfl, w⟩ := asInt_inv w
      obtain ⟨j, hj, w⟩ := w
      obtain ⟨vs, e1, q1⟩ := hr.l e
      cases r1; cases r2
      have wr : WrOk H a := .inl ⟨vs, e1⟩
      exact set_list pins s σ H _ _ v ov iv u Q I ro ri rv ⟨a, vs, k, j, rfl, rfl, e1, by rw [← q1.length]; exact hj, n _ _ w (hr.wr (c := .lst (xs.set j d)) wr ⟨_, upd_same, (Reps.set r3 j q1).mono (tst_wr wr)⟩) (tst_wr wr)⟩
    · rename_i kvs e
      obtain ⟨ky, l, w⟩ := w
      obtain ⟨ks, e1, q1⟩ := hr.d e
      obtain ⟨k, ek⟩ := isKey_keyV ky
      have ei := keyV_rep ek r2
      subst ei
      cases r1
      have wr : WrOk H a := .inr (.inl ⟨ks, e1⟩)
      exact set_dict (by omega) pins s σ H _ _ v ov iv u Q I ro ri rv ⟨a, _, rfl, DPut.k e1 (by rw [← q1.length, sz_eq]; exact l), n _ _ w (hr.wr (c := .dct (stor kvs dy d)) wr ⟨_, upd_same, (q1.put ek r3).mono (tst_wr wr)⟩) (tst_wr wr)⟩
    · rename_i kvs e
      obtain ⟨ky, l, w⟩ := w
      cases r1
      cases ro
      exact set_n hu I hr e ky r2 ri r3 rv l fun H' s' I' hr' t => ⟨H', I', n _ _ w hr' t⟩
    · exact w.elim
  · exact w.elim
/-- a op= b of ints -/
def rIp (op : BOp) : TIp := fun x y H Q => ∃ i j, x = .int i ∧ y = .int j ∧ ((op = .add ∧ Q (.int (i + j)) H) ∨ (op = .sub ∧ Q (.int (i - j)) H))
theorem ip_ok (op : BOp) : PIp X op.py (rIp op) := by
  intro pins s σ H x y v u Q I r1 r2 ⟨i, j, e1, e2, q⟩
  rcases q with ⟨rfl, q⟩ | ⟨rfl, q⟩
  · exact ip_add pins s σ H x y v u Q I r1 r2 ⟨i, j, e1, e2, q⟩
  · exact ip_sub pins s σ H x y v u Q I r1 r2 ⟨i, j, e1, e2, q⟩
end
end Mp
/-! Statements, blocks, defs: soundness. -/
namespace Mp
open PySem PySem.Spec L2
/-- the context of a def's body, no exception leaving -/
structure CorS (T : Tx) (X : Cx) : Prop where
  cor : Cor T E0 X
  bk : X.env.blockKind = .function
  fn : ∀ x, X.fn x = true
  xe : X.xe = fun _ _ => False
section
variable {T : Tx} {X : Cx} {a b c : Expr} {pos : Pos}
theorem CorS.own (cor : CorS T X) : PassesOwn (model X.prog X.w) X.A X.env X.xe := by rw [cor.xe]; exact PassesOwn.never
theorem CorS.loc (cor : CorS T X) {x : Str} (h : locB X.env.scope x = true) : Loc X.env.scope x ∧ (X.fn x = true ∨ X.env.scope.names.lookup x = some .local) := ⟨loc_1 h, .inl (cor.fn x)⟩
theorem CorS.hu1 (cor : CorS T X) : X.A.units + 64 < cLine := by have := cor.cor.hu; omega
theorem st_expr {m : E} {e : Expr} (h : PE X e (TEd (XF X) E0 m)) (g : isComp e = false) : PS X (.Expr e pos) (TSd (XF X) E0 (.expr m)) :=
  PS.imp (ps_expr h (swp_none g)) fun dd σ H ⟨σd, h, P, Xd, er, hr, w, n, x⟩ => by
    rw [wpS] at w
    exact ⟨σd, h, _, Xd, er, hr, w, fun d h1 v H1 q r hr1 t => n.nx _ _ _ _ q (er.mono t) hr1 t, x⟩
theorem st_ret {m : E} {e : Expr} (h : PE X e (TEd (XF X) E0 m)) : PS X (.Return (some e) pos) (TSd (XF X) E0 (.ret m)) :=
  PS.imp (ps_ret h) fun dd σ H ⟨σd, h, P, Xd, er, hr, w, n, x⟩ => by
    rw [wpS] at w
    exact ⟨σd, h, _, Xd, er, hr, w, n.rt, x⟩
theorem st_retN : PS X (.Return none pos) (TSd (XF X) E0 (.ret (.lit .non))) :=
  PS.imp ps_retN fun dd σ H ⟨σd, h, P, Xd, er, hr, w, n, x⟩ => by
    rw [wpS, wpE] at w
    exact n.rt _ _ _ _ w .non hr (Tst.refl _)
theorem asg_to {m : E} {t : Tg} {dd : Ends} {σ : St} {H : Hp} (h : TSd (XF X) E0 (.asg t m) dd σ H) : tAsg (TEd (XF X) E0 m) (TGd (XF X) t) dd σ H := by
  obtain ⟨σd, h, P, Xd, er, hr, w, n, x⟩ := h
  rw [wpS] at w
  exact ⟨σd, h, _, Xd, er, hr, w, fun d h1 v H1 q r hr1 t1 => ⟨σd, d, _, er.mono t1, r, q, fun σd' σ' q er' _ => n.nx _ _ _ _ q er' hr1 t1⟩, x⟩
theorem asgN_to {m : E} {i : Nat} {dd : Ends} {σ : St} {H : Hp} (h : TSd (XF X) E0 (.asg (.name i) m) dd σ H) : tAsg (TEd (XF X) E0 m) (gName i) dd σ H := by
  obtain ⟨σd, h, P, Xd, er, hr, w, n, x⟩ := h
  rw [wpS] at w
  exact ⟨σd, h, _, Xd, er, hr, w, fun d h1 v H1 q r hr1 t1 => n.nx _ _ _ _ q ((er.mono t1).set i r) hr1 t1, x⟩
theorem st_sub {m mo mi : E} {e o i : Expr} {p : Pos} (hu : X.A.units + 64 < cLine) (h : PE X e (TEd (XF X) E0 m)) (ho : PE X o (TEd (XF X) E0 mo)) (hi : PE X i (TEd (XF X) E0 mi)) (g : good i = true) : PS X (.Assign [.Subscript o i p] e pos) (TSd (XF X) E0 (.asgIx mo mi m)) := by
  have ha : ∀ v, assign (.Subscript o i p) X.env v = (do
      let ov ← holding [v] (eval o X.env)
      let iv ← holding [v, ov] (eval i X.env)
      standAt p
      holding [v, ov, iv] (setItem ov iv v)
      release [v, ov, iv] []) := by
    intro v
    cases i <;> first | rfl | cases g
  refine PS.imp (ps_asg h (pg_sub ho hi (set_ok hu) ha) swp_sub (by rfl)) fun dd σ H ⟨σd, h, P, Xd, er, hr, w, n, x⟩ => ?_
  rw [wpS] at w
  refine ⟨σd, h, _, Xd, er, hr, w, fun d h1 v H1 q r hr1 t1 => ⟨σd, h1, _, Xd, er.mono t1, hr1, q, fun d2 h2 v2 H2 q2 r2 hr2 t2 => ⟨σd, h2, _, Xd, er.mono (t1.trans t2), hr2, q2, fun d3 h3 v3 H3 q3 r3 hr3 t3 => ?_, x.mono (t1.trans t2)⟩, x.mono t1⟩, x⟩
  refine ⟨d2, d3, d, h3, fun h4 => P.nx σd h4, r2.mono t3, r3, r.mono (t2.trans t3), hr3, ?_, fun h4 H4 q4 hr4 t4 => n.nx _ _ _ _ q4 (er.mono (t1.trans (t2.trans (t3.trans t4)))) hr4 (t1.trans (t2.trans (t3.trans t4)))⟩
  exact q3
theorem st_fset {c f : Str} {m mo : E} {e o : Expr} {p : Pos} {C : Addr} (hc : ClsN (XF X) c C) (k : Cls X.K C) (na : NoAttr X.K C f) (h : PE X e (TEd (XF X) E0 m)) (ho : PE X o (TEd (XF X) E0 mo)) (g : isComp e = false) : PS X (.Assign [.Attribute o f p] e pos) (TSd (XF X) E0 (.fset c mo f m)) :=
  PS.imp (ps_fld ho h (swp_att g)) fun dd σ H ⟨σd, h, P, Xd, er, hr, w, n, x⟩ => by
    rw [wpS] at w
    refine ⟨σd, h, _, Xd, er, hr, w, fun d h1 v H1 q r hr1 t1 => ⟨σd, h1, _, Xd, er.mono t1, hr1, q, fun d2 h2 v2 H2 q2 r2 hr2 t2 => ?_, x.mono t1⟩, x⟩
    obtain ⟨a, fs, rfl, e2, hl, q⟩ := q2
    cases r2
    obtain ⟨C', dx, vs, n', e', r'⟩ := hr2 a _ e2
    cases hc.eq n'
    have wr : WrOk H2 a := .inr (.inr (.inr ⟨_, _, _, e'⟩))
    refine ⟨a, C, dx, vs, rfl, e', k, na, by rw [← r'.length]; exact hl, ?_⟩
    exact n.nx _ _ _ _ q (er.mono ((t1.trans t2).trans (tst_wr wr))) (hr2.wr (c := .obj c (putS f d fs)) wr ⟨C, dx, _, hc, upd_same, (r'.put (r.mono t2)).mono (tst_wr wr)⟩) ((t1.trans t2).trans (tst_wr wr))
theorem st_aug {m : E} {e : Expr} {op : BOp} {i : Nat} {x : Str} {p : Pos} (cor : CorS T X) (hN : X.N[i]? = some x) (hl : locB X.env.scope x = true) (h : PE X e (TEd (XF X) E0 m)) : PS X (.AugAssign (.Name x p) op.py e pos) (TSd (XF X) E0 (.aug op i m)) :=
  PS.imp (ps_aug cor.cor.nd hN (cor.loc hl).1 h (ip_ok op) (cor.loc hl).2) fun dd σ H ⟨σd, h, P, Xd, er, hr, w, n, x⟩ => by
    rw [wpS] at w
    obtain ⟨d, e1, w⟩ := w
    obtain ⟨v, e2, r⟩ := er.at_ i d e1
    refine ⟨v, e2, σd, h, _, Xd, er, hr, w, fun d1 h1 v1 H1 q r1 hr1 t1 => ?_, x⟩
    dsimp only at q
    split at q
    · cases r; cases r1
      exact ⟨_, _, rfl, rfl, .inl ⟨rfl, n.nx _ _ _ _ q ((er.mono t1).set i (.int _)) hr1 t1⟩⟩
    · cases r; cases r1
      exact ⟨_, _, rfl, rfl, .inr ⟨rfl, n.nx _ _ _ _ q ((er.mono t1).set i (.int _)) hr1 t1⟩⟩
    · exact q.elim
theorem st_if {c : Expr} {a b : List Stmt} {mc : E} {ma mb : B} (hc : PT X c (TTd (XF X) E0 mc)) (ha : PSs X a (TBd (XF X) E0 ma)) (hb : PSs X b (TBd (XF X) E0 mb)) : PS X (.If c a b pos) (TSd (XF X) E0 (.ifs mc ma mb)) :=
  PS.imp (ps_if hc ha hb) fun dd σ H ⟨σd, h, P, Xd, er, hr, w, n, x⟩ => by
    rw [wpS] at w
    refine ⟨σd, h, _, Xd, er, hr, w, fun d h1 H1 q hr1 t1 => ?_, x⟩
    obtain ⟨t, et, q⟩ := q
    refine ⟨t, et, ?_⟩
    cases t with
    | true => exact ⟨σd, h1, P, Xd, er.mono t1, hr1, q, n.mono t1, x.mono t1⟩
    | false => exact ⟨σd, h1, P, Xd, er.mono t1, hr1, q, n.mono t1, x.mono t1⟩
theorem st_while {c : Expr} {a : List Stmt} {mc : E} {ma : B} (cor : CorS T X) (hc : PT X c (TTd (XF X) E0 mc)) (ha : PSs X a (TBd (XF X) E0 ma)) : PS X (.While c a [] pos) (TSd (XF X) E0 (.whl mc ma)) :=
  PS.imp (ps_while cor.own hc ha) fun dd σ H ⟨σd, h, P, Xd, er, hr, w, n, x⟩ => by
    rw [wpS] at w
    obtain ⟨m0, w⟩ := w
    generalize hcc : (fun (σ : En) (h : Hh) (k : Bool → Hh → Prop) => wpE mc σ h Xd fun d h1 => ∃ t, truth h1 d = some t ∧ k t h1) = cc at w
    generalize hbb : (fun (σ : En) (h : Hh) (k : En → Hh → Prop) => wpB ma σ h Xd { P with nx := k, ct := k, bk := P.nx }) = bb at w
    refine ⟨fun m σ' H' => ∃ σd' h', ERep (XF X) H' σd' σ' ∧ HRep (XF X) h' H' ∧ Tst H H' ∧ whl cc bb P.nx m σd' h', ⟨m0, σd, h, er, hr, Tst.refl _, w⟩, ?_⟩
    rintro m σ1 H1 ⟨σd1, h1, er1, hr1, t1, w1⟩
    cases m with
    | zero => exact w1.elim
    | succ m =>
      unfold whl at w1
      rw [← hcc] at w1
      refine ⟨σd1, h1, _, Xd, er1, hr1, w1, fun d h2 H2 q hr2 t2 => ?_, x.mono t1⟩
      obtain ⟨t, et, q⟩ := q
      rw [hcc] at q
      refine ⟨t, et, ?_⟩
      cases t with
      | false => exact n.nx _ _ _ _ q (er1.mono t2) hr2 (t1.trans t2)
      | true =>
        simp only [if_true] at q ⊢
        rw [← hbb] at q
        refine ⟨fun σ' H' => ∃ σd' h', ERep (XF X) H' σd' σ' ∧ HRep (XF X) h' H' ∧ Tst H H' ∧ whl cc bb P.nx m σd' h', fun σ' H' q => ⟨m, Nat.lt_succ_self _, q⟩, σd1, h2, _, Xd, er1.mono t2, hr2, q, ?_, x.mono (t1.trans t2)⟩
        rw [hbb]
        exact ⟨fun σd' h' σ' H' q er' hr' t' => ⟨σd', h', er', hr', (t1.trans t2).trans t', q⟩, fun σd' h' σ' H' q er' hr' t' => n.nx _ _ _ _ q er' hr' ((t1.trans t2).trans t'),
          fun σd' h' σ' H' q er' hr' t' => ⟨σd', h', er', hr', (t1.trans t2).trans t', q⟩, n.rt.mono (t1.trans t2)⟩
theorem st_for {tg iter : Expr} {a : List Stmt} {t : Tg} {it : It} {ma : B} (cor : CorS T X) (hi : PI X tg iter (TId (XF X) E0 it)) (hg : PG X tg (TGd (XF X) t)) (ha : PSs X a (TBd (XF X) E0 ma)) (g : good iter = true) : PS X (.For tg iter a [] pos) (TSd (XF X) E0 (.for_ t it ma)) :=
  PS.imp (ps_for cor.own cor.cor.calm hi hg ha (good_fold g _)) fun dd σ H ⟨σd, h, P, Xd, er, hr, w, n, x⟩ => by
    rw [wpS] at w
    refine ⟨σd, h, _, Xd, er, hr, w, fun items gg h1 J H1 q hr1 t1 W => ?_, x⟩
    generalize htn : (fun (x : D) (σ : En) (h : Hh) (k : En → Hh → Prop) => wpTg t x σ fun σ1 => wpB ma σ1 h Xd { P with nx := k, ct := k, bk := P.nx }) = turn at q
    refine ⟨fun i m σ' H' => m = items.length - i ∧ i ≤ items.length ∧ ∃ σd' h', ERep (XF X) H' σd' σ' ∧ HRep (XF X) h' H' ∧ Tst H1 H' ∧ itr gg turn P.nx (items.drop i) σd' h', ⟨_, rfl, Nat.zero_le _, σd, h1, er.mono t1, hr1, Tst.refl _, q⟩, ?_⟩
    rintro i m σ' H' ⟨rfl, hi, σd', h', er', hr', t', q'⟩
    by_cases hlt : i < items.length
    · rw [List.drop_eq_getElem_cons hlt] at q'
      obtain ⟨gk, q'⟩ := q'
      refine .inr ⟨W.go i h' H' hlt hr' gk t', fun σ2 H2 => ∃ σd2 h2, ERep (XF X) H2 σd2 σ2 ∧ HRep (XF X) h2 H2 ∧ Tst H1 H2 ∧ itr gg turn P.nx (items.drop (i + 1)) σd2 h2, fun σ2 H2 ⟨σd2, h2, a0, a1, a2, a3⟩ => ⟨_, by omega, rfl, hlt, σd2, h2, a0, a1, a2, a3⟩, fun v H2 y => ?_⟩
      obtain ⟨t2, hr2, d, hd, r2⟩ := W.yld i h' H' v H2 hlt hr' gk t' y
      rw [List.getElem?_eq_getElem hlt] at hd; cases hd
      rw [← htn] at q'
      refine ⟨σd', _, _, er'.mono t2, r2, q', fun σ1 σ2 q1 er2 sm => ⟨σ1, h', _, Xd, er2, hr2, q1, ?_, x.mono (t1.trans (t'.trans t2))⟩⟩
      rw [htn]
      exact ⟨fun σd3 h3 σ3 H3 q er3 hr3 t3 => ⟨σd3, h3, er3, hr3, (t'.trans t2).trans t3, q⟩, fun σd3 h3 σ3 H3 q er3 hr3 t3 => n.nx _ _ _ _ q er3 hr3 (t1.trans ((t'.trans t2).trans t3)),
          fun σd3 h3 σ3 H3 q er3 hr3 t3 => ⟨σd3, h3, er3, hr3, (t'.trans t2).trans t3, q⟩, n.rt.mono (t1.trans (t'.trans t2))⟩
    · have e' : i = items.length := by omega
      subst e'
      rw [List.drop_length] at q'
      exact .inl ⟨W.stop h' H' hr' q'.1 t', n.nx _ _ _ _ q'.2 er' hr' (t1.trans t')⟩
theorem st_raise {c : String} {es : As} {st : Stmt} (h : (litA es).isSome = true) : PS X st (TSd (XF X) E0 (.raise c es)) :=
  ⟨fun pins s σ H dd I ⟨σd, h', P, Xd, er, hr, w, n, x⟩ => by
    rw [wpS] at w
    obtain ⟨ds, e⟩ := Option.isSome_iff_exists.mp h
    exact (x _ _ (litA_wp e w)).elim⟩
theorem b_nil : PSs X [] (TBd (XF X) E0 .nil) := ⟨fun pins s σ H dd I ⟨σd, h, P, Xd, er, hr, w, n, x⟩ => by
  rw [wpB] at w
  exact pss_nil.run pins s σ H dd I (n.nx _ _ _ _ w er hr (Tst.refl _))⟩
theorem b_cons {st : Stmt} {rest : List Stmt} {m : S} {ms : B} (h1 : PS X st (TSd (XF X) E0 m)) (h2 : PSs X rest (TBd (XF X) E0 ms)) : PSs X (st :: rest) (TBd (XF X) E0 (.cons m ms)) :=
  PSs.imp (pss_cons h1 h2) fun dd σ H ⟨σd, h, P, Xd, er, hr, w, n, x⟩ => by
    rw [wpB] at w
    refine ⟨σd, h, _, Xd, er, hr, w, ⟨fun σd' h' σ' H' q er' hr' t' => ⟨σd', h', P, Xd, er', hr', q, n.mono t', x.mono t'⟩, n.bk, n.ct, n.rt⟩, x⟩
theorem reps_2 {K : Frag} {H : Hp} {d e : D} {vs : List V} (r : Reps K H [d, e] vs) : ∃ v w, vs = [v, w] ∧ Rep K H d v ∧ Rep K H e w := by
  cases r with
  | cons r s => cases s with
    | cons r' s => cases s; exact ⟨_, _, rfl, r, r'⟩
theorem reps_3 {K : Frag} {H : Hp} {d e f : D} {vs : List V} (r : Reps K H [d, e, f] vs) : ∃ v w u, vs = [v, w, u] ∧ Rep K H d v ∧ Rep K H e w ∧ Rep K H f u := by
  cases r with
  | cons r s => cases s with
    | cons r' s => cases s with
      | cons r'' s => cases s; exact ⟨_, _, _, rfl, r, r', r''⟩
theorem st_par {ts : List Nat} {es : As} {ts' es' : List Expr} {k k2 : Nat} {p p2 : Pos} (cor : CorS T X) (hp : parB T X.env.scope ts ts' = true) (ha : PA X es' (TAd (XF X) E0 es)) (g : es'.all good = true) (hl : (es'.length == ts'.length) = true) (f : es'.all (foldedForSure 8) = false) (c : es'.all (constantsAlone 8) = false) :
    PS X (.Assign [.Tuple ts' k p] (.Tuple es' k2 p2) pos) (TSd (XF X) E0 (.par ts es)) := by
  have hl : es'.length = ts'.length := by simpa using hl
  have hN := cor.cor.N
  unfold parB at hp
  split at hp
  · simp only [Bool.and_eq_true, decide_eq_true_eq] at hp
    obtain ⟨⟨⟨⟨⟨⟨h1, h2⟩, h3⟩, h4⟩, h5⟩, h6⟩, h7⟩ := hp
    cases es' with
    | nil => cases hl
    | cons a es' =>
      cases es' with
      | nil => cases hl
      | cons b es' =>
        cases es' with
        | cons _ _ => cases hl
        | nil =>
          simp only [List.all_cons, List.all_nil, Bool.and_true, Bool.and_eq_true] at g
          refine PS.imp (ps_par cor.cor.calm cor.cor.nd (by rw [hN]; exact h1) (by rw [hN]; exact h2) h5 h3 h4 ha (par2_ok cor.bk h3 h4 h6 h7 g.1 g.2 f c) swp_tup) fun dd σ H ⟨σd, h, P, Xd, er, hr, w, n, x⟩ => ?_
          rw [wpS] at w
          refine ⟨σd, h, _, Xd, er, hr, w, fun ds h1 vs H1 q rs hr1 t1 => ?_, x⟩
          obtain ⟨ql, q⟩ := q
          match ds, ql with
          | [d1, d2], _ =>
            obtain ⟨v1, v2, rfl, r1, r2⟩ := reps_2 rs
            exact ⟨_, _, rfl, n.nx _ _ _ _ q (((er.mono t1).set _ r1).set _ r2) hr1 t1⟩
  · simp only [Bool.and_eq_true, decide_eq_true_eq] at hp
    obtain ⟨⟨⟨⟨⟨⟨⟨⟨⟨⟨⟨⟨⟨h1, h2⟩, h3⟩, h4⟩, h5⟩, h6⟩, h7⟩, h8⟩, h9⟩, h10⟩, h11⟩, h12⟩, h13⟩, h14⟩ := hp
    cases es' with
    | nil => cases hl
    | cons a es' =>
      cases es' with
      | nil => cases hl
      | cons b es' =>
        cases es' with
        | nil => cases hl
        | cons c' es' =>
          cases es' with
          | cons _ _ => cases hl
          | nil =>
            simp only [List.all_cons, List.all_nil, Bool.and_true, Bool.and_eq_true] at g
            refine PS.imp (ps_par3 cor.cor.calm cor.cor.nd (by rw [hN]; exact h1) (by rw [hN]; exact h2) (by rw [hN]; exact h3) h7 h8 h9 h4 h5 h6 ha (par3_ok cor.bk h4 h5 h6 h10 h11 h12 h13 h14 g.1 g.2.1 g.2.2 f c) swp_tup) fun dd σ H ⟨σd, h, P, Xd, er, hr, w, n, x⟩ => ?_
            rw [wpS] at w
            refine ⟨σd, h, _, Xd, er, hr, w, fun ds h1 vs H1 q rs hr1 t1 => ?_, x⟩
            obtain ⟨ql, q⟩ := q
            match ds, ql with
            | [d1, d2, d3], _ =>
              obtain ⟨v1, v2, v3, rfl, r1, r2, r3⟩ := reps_3 rs
              exact ⟨_, _, _, rfl, n.nx _ _ _ _ q ((((er.mono t1).set _ r1).set _ r2).set _ r3) hr1 t1⟩
  · cases hp
end
mutual
theorem sS {T : Tx} : ∀ (m : S) {X : Cx} (cor : CorS T X) (st : Stmt), chkS T m X.env.scope st = true → CallsS T m → PS X st (TSd (XF X) E0 m)
  | .expr m, X, cor, st, h, hc => by
    unfold chkS at h
    split at h
    · simp only [Bool.and_eq_true, Bool.not_eq_true'] at h
      exact st_expr (sE m cor.cor _ h.1 hc).pe h.2
    · cases h
  | .asg t m, X, cor, st, h, hc => by
    unfold chkS at h
    split at h
    · rename_i tg e' pos
      simp only [Bool.and_eq_true] at h
      obtain ⟨⟨ht, he⟩, hs⟩ := h
      have hT := sT (sc := X.env.scope) cor.cor.N cor.cor.nd cor.cor.calm (fun x hx => cor.loc hx) t
      split at hs
      · rename_i x p
        cases t with
        | nil => unfold chkT at ht; cases ht
        | cons _ _ => unfold chkT at ht; cases ht
        | name i =>
          have ht' := ht
          unfold chkT at ht'
          simp only [Bool.and_eq_true, decide_eq_true_eq] at ht'
          have hN : X.N[i]? = some x := by rw [cor.cor.N]; exact ht'.1
          have hL := cor.loc ht'.2
          by_cases hw : swp X.env.scope x p e' = true
          · cases m with
            | comp own t2 it c e1 =>
              unfold chkE at he
              split at he
              · rename_i e2 tg2 iter ifs scope pos2
                simp only [Bool.and_eq_true] at he
                obtain ⟨⟨⟨⟨⟨⟨hi, hg⟩, hb⟩, ho⟩, ht2⟩, hcc⟩, he⟩ := he
                have ok : BlkOk X.N X.env.scope scope (ownN T own) := by rw [cor.cor.N]; exact blkOk_by hb
                have hyl : X.env.scope.names.lookup x = some .local := by
                  unfold swp at hw
                  simp only [Bool.and_eq_true, beq_iff_eq] at hw
                  exact hw.1.1
                refine PS.imp (ps_setLc (g := TGd (XF X) t2) (tt := TCd (XF X) E0 c) (te := TEd (XF X) E0 e1) cor.cor.calm cor.cor.nd hN hyl (by rw [swp_ok cor.bk, hw]) (sI it cor.cor tg2 iter hi hc.1) ok
                  (fun s H C cl fp => (sT (X := X.blk s H scope (compEnvC scope cl C X.env) fp) (sc := scope) cor.cor.N cor.cor.nd cor.cor.calm (fun x hx => locB_rel hx) t2).1 tg2 ht2)
                  (fun s H C cl fp => sC c (cor.cor.blk s H scope (compEnvC scope cl C X.env) fp) ifs hcc hc.2.1) (fun s H C cl fp => (sE e1 (cor.cor.blk s H scope (compEnvC scope cl C X.env) fp) e2 he hc.2.2).pe) (good_fold hg _)) fun dd σ H q => ?_
                have q := asgN_to q
                rw [own_2]
                exact lc_to (own_all ho) q
              · cases he
            | _ => simp only [Bool.not_eq_true'] at hs; rw [hw] at hs; cases hs
          · have hw' : swp X.env.scope x p e' = false := by simpa using hw
            exact PS.imp (ps_set cor.cor.nd hN hL.1 (sE m cor.cor _ he hc).pe (by rw [swp_ok cor.bk, hw']) hL.2) fun dd σ H q => asgN_to q
      · cases tg with
        | Tuple es k p => exact PS.imp (ps_asg (sE m cor.cor _ he hc).pe (hT.1 _ ht) swp_tup (noSwap_ok hs) rfl) fun dd σ H q => asg_to q
        | _ => unfold noSwap at hs; cases hs
    · cases h
  | .par ts es, X, cor, st, h, hc => by
    unfold chkS at h
    split at h
    · simp only [Bool.and_eq_true, Bool.not_eq_true'] at h
      obtain ⟨⟨⟨⟨hp, ha⟩, hl⟩, hf⟩, hcc⟩ := h
      exact st_par cor hp (sA es cor.cor _ ha hc) (goods ha).1 hl hf hcc
    · cases h
  | .fset c o f e, X, cor, st, h, hc => by
    unfold chkS at h
    split at h
    · simp only [Bool.and_eq_true, decide_eq_true_eq, Bool.not_eq_true'] at h
      obtain ⟨⟨⟨⟨rfl, hf⟩, he⟩, ho⟩, hcp⟩ := h
      obtain ⟨C, h1, h2, h3⟩ := cor.cor.cl _ _ hf
      exact st_fset h1 h2 h3 (sE e cor.cor _ he hc.2).pe (sE o cor.cor _ ho hc.1).pe hcp
    · cases h
  | .asgIx o i e, X, cor, st, h, hc => by
    unfold chkS at h
    split at h
    · simp only [Bool.and_eq_true] at h
      exact st_sub cor.hu1 (sE e cor.cor _ h.1.1 hc.2.2).pe (sE o cor.cor _ h.1.2 hc.1).pe (sE i cor.cor _ h.2 hc.2.1).pe (good_of h.2)
    · cases h
  | .aug op i e, X, cor, st, h, hc => by
    unfold chkS at h
    split at h
    · simp only [Bool.and_eq_true, decide_eq_true_eq] at h
      obtain ⟨⟨⟨⟨rfl, _⟩, hN⟩, hl⟩, he⟩ := h
      exact st_aug cor (by rw [cor.cor.N]; exact hN) hl (sE e cor.cor _ he hc).pe
    · cases h
  | .ret e, X, cor, st, h, hc => by
    unfold chkS at h
    split at h
    · exact st_ret (sE e cor.cor _ h hc).pe
    · split at h
      · exact st_retN
      · cases h
    · cases h
  | .ifs c a b, X, cor, st, h, hc => by
    unfold chkS at h
    split at h
    · simp only [Bool.and_eq_true] at h
      exact st_if (sE c cor.cor _ h.1.1 hc.1).pt (sB a cor _ h.1.2 hc.2.1) (sB b cor _ h.2 hc.2.2)
    · cases h
  | .whl c b, X, cor, st, h, hc => by
    unfold chkS at h
    split at h
    · simp only [Bool.and_eq_true] at h
      exact st_while cor (sE c cor.cor _ h.1 hc.1).pt (sB b cor _ h.2 hc.2)
    · cases h
  | .for_ t it b, X, cor, st, h, hc => by
    unfold chkS at h
    split at h
    · simp only [Bool.and_eq_true] at h
      obtain ⟨⟨⟨hi, hg⟩, ht⟩, hb⟩ := h
      exact st_for cor (sI it cor.cor _ _ hi hc.1) ((sT (sc := X.env.scope) cor.cor.N cor.cor.nd cor.cor.calm (fun x hx => cor.loc hx) t).1 _ ht) (sB b cor _ hb hc.2) hg
    · cases h
  | .raise c es, X, cor, st, h, hc => by
    unfold chkS at h
    split at h
    · simp only [Bool.and_eq_true] at h
      exact st_raise h.1.2
    · cases h
  | .pass, X, cor, st, h, hc => by
    unfold chkS at h
    split at h
    · exact PS.imp ps_pass fun dd σ H ⟨σd, h, P, Xd, er, hr, w, n, x⟩ => by rw [wpS] at w; exact n.nx _ _ _ _ w er hr (Tst.refl _)
    · cases h
  | .brk, X, cor, st, h, hc => by
    unfold chkS at h
    split at h
    · exact PS.imp ps_break fun dd σ H ⟨σd, h, P, Xd, er, hr, w, n, x⟩ => by rw [wpS] at w; exact n.bk _ _ _ _ w er hr (Tst.refl _)
    · cases h
  | .cont, X, cor, st, h, hc => by
    unfold chkS at h
    split at h
    · exact PS.imp ps_continue fun dd σ H ⟨σd, h, P, Xd, er, hr, w, n, x⟩ => by rw [wpS] at w; exact n.ct _ _ _ _ w er hr (Tst.refl _)
    · cases h
theorem sB {T : Tx} : ∀ (m : B) {X : Cx} (cor : CorS T X) (ss : List Stmt), chkB T m X.env.scope ss = true → CallsB T m → PSs X ss (TBd (XF X) E0 m)
  | .nil, X, cor, ss, h, hc => by
    cases ss with
    | nil => exact b_nil
    | cons _ _ => cases h
  | .cons m ms, X, cor, ss, h, hc => by
    cases ss with
    | nil => cases h
    | cons st rest =>
      unfold chkB at h
      simp only [Bool.and_eq_true] at h
      exact b_cons (sS m cor st h.1 hc.1) (sB ms cor rest h.2 hc.2)
end
/-! ### a def -/
/-- the facts of the module that a def's body asks -/
structure Mod (P : Program) (w : World) (K : PySem.W.Frag) (mg : Str → Option Value) (base : Heap) (T : Tx) (k : Nat) : Prop where
  gc : ∀ x l, T.gc.lookup x = some l → ∃ u, mg x = some u ∧ RelV (litV l) u
  bi : ∀ x ∈ biNames, mg x = none
  fn : ∀ (x : String) F, T.fn x F → ∃ j f fd ps, FnOk P w K mg base CX0 j f fd ps (spF ⟨K, w⟩ F) ∧ j ≤ k ∧ mg x = some (.ref f) ∧ PySem.W.keepIn K (.ref f) = true ∧ Binds K fd ps []
  cl : ∀ c f, attB T c f = true → ∃ C, ClsN ⟨K, w⟩ c C ∧ Cls K C ∧ NoAttr K C f
  mt : ∀ c m F, T.mt c m F → ∃ j f fd ps C, ClsN ⟨K, w⟩ c C ∧ Cls K C ∧ Meth K C m f ∧ FnOk P w K mg base CX0 j f fd ps (spF ⟨K, w⟩ F) ∧ j ≤ k ∧ Binds K fd ps []
  ini : ∀ c F, T.ini c F → ∃ j f fd ps C, ClsN ⟨K, w⟩ c C ∧ Mk K C f ∧ mg c = some (.ref C) ∧ FnOk P w K mg base CX0 j f fd ps (spF ⟨K, w⟩ F) ∧ j + 1 ≤ k ∧ Binds K fd ps []
def Fn.np : Fn → Nat
  | .mk np _ _ => np
def Fn.body : Fn → B
  | .mk _ _ b => b
/-- the check of a def -/
def chkF (T : Tx) (F : Fn) (ps : List Str) (st : Stmt) : Bool := match F with
  | .mk np ns b => C8.scC T.N ps (defScope st) && decide (ps.length = np) && decide (T.N.length = ns) && chkB T b (defScope st) (defBody st)
theorem replicate_at {α : Type} {i n : Nat} {x y : α} (h : (List.replicate n x)[i]? = some y) : y = x := by
  rw [List.getElem?_replicate] at h
  split at h <;> cases h
  rfl
theorem start_rep {K : Frag} {H : Hp} : ∀ {ds : List D} {vs : List V} (n : Nat), Reps K H ds vs → ERep K H (ds.map some ++ List.replicate n none) (vs.map some ++ List.replicate n none)
  | ds, vs, n, r => by
    refine ⟨by simp [r.length], fun i d e => ?_⟩
    have hl := r.length
    by_cases hi : i < ds.length
    · rw [List.getElem?_append_left (by simpa using hi), List.getElem?_map] at e
      rw [List.getElem?_append_left (by simp; omega), List.getElem?_map]
      cases q : ds[i]? with
      | none => rw [q] at e; cases e
      | some d' =>
        rw [q] at e
        cases e
        obtain ⟨v, h1, h2⟩ := r.get q
        exact ⟨v, by rw [h1]; rfl, h2⟩
    · rw [List.getElem?_append_right (by simp; omega)] at e
      cases replicate_at e
theorem sound_fn {P : Program} {w : World} {K : PySem.W.Frag} {mg : Str → Option Value} {base : Heap} {T : Tx} {k : Nat} {x qual : Str} {st : Stmt} {f : Addr} {fd : FuncData} {ps : List Str} {F : Fn} (md : Mod P w K mg base T k) (hf : L2.Fun K x qual st f fd)
    (hc : chkF T F ps st = true) (hcl : CallsB T F.body) : FnOk P w K mg base CX0 (k + 1) f fd ps (spF ⟨K, w⟩ F) := by
  cases F with
  | mk np ns b =>
  unfold chkF at hc
  simp only [Bool.and_eq_true, decide_eq_true_eq] at hc
  obtain ⟨⟨⟨hs, hp⟩, hn⟩, hb⟩ := hc
  have S : FnScope T.N ps (defScope st) := C8.fnScope_by hs
  refine hf.ok S (fun vs H Q E ⟨ds, h, Qd, Xd, rs, hr, wq, n, xx⟩ => ?_) fun cdv A outer s H vs Q E hr ⟨ds, h, Qd, Xd, rs, hrr, wq, n, xx⟩ => ?_
  · rw [wpF] at wq
    rw [← rs.length, wq.1, hp]
  · rw [wpF] at wq
    have hkd : (PyProof.Rows.envOfC qual (defScope st) s.heap.objs.size f cdv).blockKind = .function := by
      have e1 : (PyProof.Rows.envOfC qual (defScope st) s.heap.objs.size f cdv).scope.kind = .function := S.kind
      unfold Env.blockKind
      rw [e1]; rfl
    have cor : CorS T (cxOf CX0 P w K mg base T.N qual (defScope st) f cdv A outer s H E).nox := {
      cor := {
        N := rfl
        nd := S.nd
        calm := rfl
        hu := by have := hr.un; show (A.deeper (PyProof.Rows.envOfC qual (defScope st) s.heap.objs.size f cdv)).units + 200 < cLine; omega
        gc := md.gc
        bi := md.bi
        fn := fun x F q => by
          obtain ⟨j, f', fd', ps', h1, h2, h3, h4, h5⟩ := md.fn x F q
          exact ⟨CX0, j, f', fd', ps', h1, hr.mono h2, h3, h4, h5, pass0, fun X' => pass0⟩
        cl := md.cl
        mt := fun c m F q => by
          obtain ⟨j, f', fd', ps', C, h1, h2, h3, h4, h5, h6⟩ := md.mt c m F q
          exact ⟨CX0, j, f', fd', ps', C, h1, h2, h3, h4, hr.mono h5, h6, pass0, fun X' => pass0⟩
        ini := fun c F q => by
          obtain ⟨j, f', fd', ps', C, h1, h2, h3, h4, h5, h6⟩ := md.ini c F q
          exact ⟨CX0, j, f', fd', ps', C, h1, h2, h3, h4, hr.mono h5, h6, pass0, fun X' => pass0⟩ }
      bk := hkd
      fn := fun _ => rfl
      xe := rfl }
    refine ⟨_, sB b cor (defBody st) hb hcl, ?_⟩
    have e0 : L2.start T.N vs = vs.map some ++ List.replicate (ns - np) none := by
      unfold L2.start
      rw [← rs.length, wq.1, hn]
    rw [e0]
    exact ⟨_, h, _, Xd, start_rep _ rs, hrr, wq.2, ⟨fun _ h1 _ H1 q _ hr1 t => n _ _ _ _ q .non hr1 t, fun _ _ _ _ q => q.elim, fun _ _ _ _ q => q.elim, n⟩, xx⟩
end Mp
/-! From the module's facts to the law. -/
namespace Mp
open PySem PySem.Spec L2
/-- a def of the text, under its name, behind the top -/
def DefAt (K : PySem.W.Frag) (x : Str) (st : Stmt) : Prop := ∃ (f : Addr) (oc : Value) (od an : Option Addr) (osl : Array (Option Value)) (kV doc pm cdv ct : Value), PySem.W.nsIn K mainGlobals x = some (some (.ref f)) ∧
  K.lookup f = some ⟨oc, od, .func (PySem.W.fnOf x x (defArgs st) (defBody st) (defScope st) .none kV doc pm an cdv ct), osl⟩ ∧ PySem.W.codeIn K cdv x = true ∧ PySem.W.keepIn K (.ref f) = true
theorem DefAt.mk {K : PySem.W.Frag} {x : Str} {st : Stmt} {f : Addr} {oc : Value} {od an : Option Addr} {osl : Array (Option Value)} {kV doc pm cdv ct : Value} (a : PySem.W.nsIn K mainGlobals x = some (some (.ref f)))
    (l : K.lookup f = some ⟨oc, od, .func (PySem.W.fnOf x x (defArgs st) (defBody st) (defScope st) .none kV doc pm an cdv ct), osl⟩) (c : PySem.W.codeIn K cdv x = true) (k : PySem.W.keepIn K (.ref f) = true) : DefAt K x st :=
  ⟨f, oc, od, an, osl, kV, doc, pm, cdv, ct, a, l, c, k⟩
/-- a constant of the module -/
def ConAt (K : PySem.W.Frag) (x : Str) (l : Lit) : Prop := ∃ u, PySem.W.nsIn K mainGlobals x = some (some u) ∧ RelV (litV l) u
theorem ConAt.int {K : PySem.W.Frag} {x : Str} {i : Int} {t : Tok} (a : PySem.W.nsIn K mainGlobals x = some (some (.int i t))) : ConAt K x (.int i) := ⟨_, a, _, rfl⟩
theorem ConAt.str {K : PySem.W.Frag} {x s : Str} {l : List Nat} {t : Tok} (a : PySem.W.nsIn K mainGlobals x = some (some (.str s t))) (e : s = S2 l) : ConAt K x (.str l) := ⟨_, a, by subst e; exact ⟨_, rfl⟩⟩
/-- no such name in the module -/
abbrev NoAt (K : PySem.W.Frag) (x : Str) : Prop := PySem.W.nsIn K mainGlobals x = some none
theorem bi_mk {K : PySem.W.Frag} (z0 : PySem.W.nsIn K mainGlobals "len" = some none) (z1 : PySem.W.nsIn K mainGlobals "abs" = some none) (z2 : PySem.W.nsIn K mainGlobals "int" = some none) (z3 : PySem.W.nsIn K mainGlobals "str" = some none) (z4 : PySem.W.nsIn K mainGlobals "tuple" = some none) (z5 : PySem.W.nsIn K mainGlobals "list" = some none) (z6 : PySem.W.nsIn K mainGlobals "min" = some none) (z7 : PySem.W.nsIn K mainGlobals "all" = some none) (z8 : PySem.W.nsIn K mainGlobals "any" = some none) (z9 : PySem.W.nsIn K mainGlobals "isinstance" = some none) (z10 : PySem.W.nsIn K mainGlobals "bool" = some none) (z11 : PySem.W.nsIn K mainGlobals "dict" = some none) (z12 : PySem.W.nsIn K mainGlobals "range" = some none) (z13 : PySem.W.nsIn K mainGlobals "enumerate" = some none) (z14 : PySem.W.nsIn K mainGlobals "zip" = some none) (z15 : PySem.W.nsIn K mainGlobals "sorted" = some none) (z16 : PySem.W.nsIn K mainGlobals "sum" = some none) (z17 : PySem.W.nsIn K mainGlobals "max" = some none) : ∀ x ∈ biNames, NoAt K x := by
  intro x hx
  simp only [biNames, List.mem_cons, List.not_mem_nil, or_false] at hx
  rcases hx with rfl | rfl | rfl | rfl | rfl | rfl | rfl | rfl | rfl | rfl | rfl | rfl | rfl | rfl | rfl | rfl | rfl | rfl
  · exact z0
  · exact z1
  · exact z2
  · exact z3
  · exact z4
  · exact z5
  · exact z6
  · exact z7
  · exact z8
  · exact z9
  · exact z10
  · exact z11
  · exact z12
  · exact z13
  · exact z14
  · exact z15
  · exact z16
  · exact z17
/-- a def that keeps its promise -/
def GoodF (P : Program) (w : World) (K : PySem.W.Frag) (mg : Str → Option Value) (base : Heap) (k : Nat) (x : String) (F : Fn) : Prop :=
  ∃ j f fd ps, FnOk P w K mg base CX0 j f fd ps (spF ⟨K, w⟩ F) ∧ j ≤ k ∧ mg x = some (.ref f) ∧ PySem.W.keepIn K (.ref f) = true ∧ Binds K fd ps []
/-- how a def's arguments bind -/
def BindA (x : Str) (st : Stmt) (ps : List Str) : Prop := ∀ (kV doc pm : Value) (an : Option Addr) (cdv ct : Value) (us : List Value), us.length = ps.length → bindArgs (PySem.W.fnOf x x (defArgs st) (defBody st) (defScope st) .none kV doc pm an cdv ct) ⟨us, []⟩ = pure (ps.zip us)
/-! ### own classes -/
structure ClsAt (K : PySem.W.Frag) (c : Str) (fs : List Str) (C : Addr) : Prop where
  at_ : PySem.W.nsIn K mainGlobals c = some (some (.ref C))
  cls : Cls K C
  mkc : PySem.W.makesIn K C = true
  kp : PySem.W.keepIn K (.ref C) = true
  na : ∀ f ∈ fs, NoAttr K C f
def ClsF (K : PySem.W.Frag) (c : Str) (fs : List Str) : Prop := ∃ C, ClsAt K c fs C
theorem NoAttr.nil {K : PySem.W.Frag} {C : Addr} : ∀ f ∈ ([] : List Str), NoAttr K C f := fun _ h => absurd h List.not_mem_nil
theorem NoAttr.cons {K : PySem.W.Frag} {C : Addr} {f : Str} {fs : List Str} (a : PySem.W.findIn K (.ref C) f = some none) (b : ∀ f ∈ fs, NoAttr K C f) : ∀ g ∈ f :: fs, NoAttr K C g := fun g h => by
  rcases List.mem_cons.mp h with rfl | h
  · exact a
  · exact b g h
theorem ClsF.mk {K : PySem.W.Frag} {c : Str} {fs : List Str} {C : Addr} (a : PySem.W.nsIn K mainGlobals c = some (some (.ref C))) (pg : PySem.W.plainGet K C Str.empty = true) (hd : PySem.W.hasDictIn K C = true) (po : PySem.W.plainOver K C = true) (sa : PySem.W.findIn K (.ref C) "__setattr__" = some (some (.builtin "object.__setattr__")))
    (mk : PySem.W.makesIn K C = true) (kc : PySem.W.keepIn K (.ref C) = true) (na : ∀ f ∈ fs, NoAttr K C f) : ClsF K c fs := ⟨C, a, ⟨pg, hd, po, sa⟩, mk, kc, na⟩
/-- a method of a class of the text -/
def MethAt (K : PySem.W.Frag) (c m qual : Str) (st : Stmt) : Prop := ∃ (C f : Addr) (oc : Value) (od an : Option Addr) (osl : Array (Option Value)) (kV doc pm cdv ct : Value), PySem.W.nsIn K mainGlobals c = some (some (.ref C)) ∧ PySem.W.findIn K (.ref C) m = some (some (.ref f)) ∧ PySem.W.isFn K (.ref f) = true ∧
  K.lookup f = some ⟨oc, od, .func (PySem.W.fnOf m qual (defArgs st) (defBody st) (defScope st) .none kV doc pm an cdv ct), osl⟩ ∧ PySem.W.codeIn K cdv qual = true ∧ PySem.W.keepIn K (.ref f) = true
theorem MethAt.mk {K : PySem.W.Frag} {c m qual : Str} {st : Stmt} {C f : Addr} {oc : Value} {od an : Option Addr} {osl : Array (Option Value)} {kV doc pm cdv ct : Value} (n : PySem.W.nsIn K mainGlobals c = some (some (.ref C))) (a : PySem.W.findIn K (.ref C) m = some (some (.ref f))) (i : PySem.W.isFn K (.ref f) = true)
    (l : K.lookup f = some ⟨oc, od, .func (PySem.W.fnOf m qual (defArgs st) (defBody st) (defScope st) .none kV doc pm an cdv ct), osl⟩) (cc : PySem.W.codeIn K cdv qual = true) (k : PySem.W.keepIn K (.ref f) = true) : MethAt K c m qual st :=
  ⟨C, f, oc, od, an, osl, kV, doc, pm, cdv, ct, n, a, i, l, cc, k⟩
def GoodM (P : Program) (w : World) (K : PySem.W.Frag) (mg : Str → Option Value) (base : Heap) (k : Nat) (c m : Str) (F : Fn) : Prop :=
  ∃ j f fd ps C, ClsN ⟨K, w⟩ c C ∧ Cls K C ∧ Meth K C m f ∧ FnOk P w K mg base CX0 j f fd ps (spF ⟨K, w⟩ F) ∧ j ≤ k ∧ Binds K fd ps []
def GoodI (P : Program) (w : World) (K : PySem.W.Frag) (mg : Str → Option Value) (base : Heap) (k : Nat) (c : Str) (F : Fn) : Prop :=
  ∃ j f fd ps C, ClsN ⟨K, w⟩ c C ∧ Mk K C f ∧ mg c = some (.ref C) ∧ FnOk P w K mg base CX0 j f fd ps (spF ⟨K, w⟩ F) ∧ j + 1 ≤ k ∧ Binds K fd ps []
theorem GoodM.mono {P : Program} {w : World} {K : PySem.W.Frag} {mg : Str → Option Value} {base : Heap} {j k : Nat} {c m : Str} {F : Fn} (g : GoodM P w K mg base j c m F) (h : j ≤ k) : GoodM P w K mg base k c m F := by
  obtain ⟨i, f, fd, ps, C, a, b, c, d, e, g⟩ := g
  exact ⟨i, f, fd, ps, C, a, b, c, d, Nat.le_trans e h, g⟩
theorem GoodI.mono {P : Program} {w : World} {K : PySem.W.Frag} {mg : Str → Option Value} {base : Heap} {j k : Nat} {c : Str} {F : Fn} (g : GoodI P w K mg base j c F) (h : j ≤ k) : GoodI P w K mg base k c F := by
  obtain ⟨i, f, fd, ps, C, a, b, c, d, e, g⟩ := g
  exact ⟨i, f, fd, ps, C, a, b, c, d, Nat.le_trans e h, g⟩
/-- how a method's arguments bind -/
def BindM (m qual : Str) (st : Stmt) (ps : List Str) : Prop := ∀ (kV doc pm : Value) (an : Option Addr) (cdv ct : Value) (us : List Value), us.length = ps.length → bindArgs (PySem.W.fnOf m qual (defArgs st) (defBody st) (defScope st) .none kV doc pm an cdv ct) ⟨us, []⟩ = pure (ps.zip us)
section
variable {P : Program} {w : World} {K : PySem.W.Frag} {mg : Str → Option Value} {base h : Heap} {T : Tx} {j k : Nat} {x : String} {F : Fn} {st : Stmt} {ps : List Str}
theorem GoodF.mono (g : GoodF P w K mg base j x F) (h : j ≤ k) : GoodF P w K mg base k x F := by
  obtain ⟨i, f, fd, ps, a, b, c, d, e⟩ := g
  exact ⟨i, f, fd, ps, a, Nat.le_trans b h, c, d, e⟩
/-- what a def asks of its module: constants, built-ins, callees, classes -/
theorem mod_mk (X : K.In h) (G : h.Ns mainGlobals mg) (gc : ∀ p ∈ T.gc, ConAt K p.1 p.2) (bi : ∀ x ∈ biNames, NoAt K x) {L : List (String × Fn)} (fn : ∀ x F, T.fn x F → (x, F) ∈ L) (hL : ∀ p ∈ L, GoodF P w K mg base k p.1 p.2)
    (cl : ∀ p ∈ T.cl, ClsF K p.1 p.2) {LM : List ((Str × Str) × Fn)} (mt : ∀ c m F, T.mt c m F → ((c, m), F) ∈ LM) (hM : ∀ p ∈ LM, GoodM P w K mg base k p.1.1 p.1.2 p.2) {LI : List (Str × Fn)} (ini : ∀ c F, T.ini c F → (c, F) ∈ LI) (hI : ∀ p ∈ LI, GoodI P w K mg base k p.1 p.2) : Mod P w K mg base T k where
  gc := fun x l e => by
    obtain ⟨u, a, r⟩ := gc _ (mem_of_lookup e)
    exact ⟨u, PySem.W.mg_of X G a, r⟩
  bi := fun x hx => PySem.W.mg_none_of X G (bi x hx)
  fn := fun x F q => hL _ (fn x F q)
  cl := fun c f e => by
    unfold attB at e
    split at e
    · rename_i fs el
      obtain ⟨C, a⟩ := cl _ (mem_of_lookup el)
      exact ⟨C, a.at_, a.cls, a.na f (by simpa using e)⟩
    · cases e
  mt := fun c m F q => hM _ (mt c m F q)
  ini := fun c F q => hI _ (ini c F q)
/-- a method's own facts -/
theorem MethAt.ok {c m qual : Str} {fs : List Str} (cF : ClsF K c fs) (d : MethAt K c m qual st) (X : K.In h) (G : h.Ns mainGlobals mg) (b : BindM m qual st ps) (md : Mod P w K mg base T k) (hc : chkF T F ps st = true) (hcl : CallsB T F.body) : GoodM P w K mg base (k + 1) c m F := by
  obtain ⟨C, f, oc, od, an, osl, kV, doc, pm, cdv, ct, a, a2, i, l, cc, kk⟩ := d
  obtain ⟨C', q⟩ := cF
  have e : C' = C := by
    have := q.at_.symm.trans a
    injection this with this
    injection this with this
    injection this
  subst e
  have F1 := fun_mk (st := st) l cc kk
  exact ⟨k + 1, f, _, ps, C', a, q.cls, ⟨a2, i, kk⟩, sound_fn md F1 hc hcl, Nat.le_refl _, F1.binds b⟩
theorem MethAt.init {c qual : Str} {fs : List Str} (cF : ClsF K c fs) (d : MethAt K c "__init__" qual st) (X : K.In h) (G : h.Ns mainGlobals mg) (b : BindM "__init__" qual st ps) (md : Mod P w K mg base T k) (hc : chkF T F ps st = true) (hcl : CallsB T F.body) : GoodI P w K mg base (k + 2) c F := by
  obtain ⟨C, f, oc, od, an, osl, kV, doc, pm, cdv, ct, a, a2, i, l, cc, kk⟩ := d
  obtain ⟨C', q⟩ := cF
  have e : C' = C := by
    have := q.at_.symm.trans a
    injection this with this
    injection this with this
    injection this
  subst e
  have F1 := fun_mk (st := st) l cc kk
  exact ⟨k + 1, f, _, ps, C', a, ⟨q.mkc, a2, i, q.kp⟩, PySem.W.mg_of X G a, sound_fn md F1 hc hcl, Nat.le_refl _, F1.binds b⟩
theorem DefAt.ok (d : DefAt K (x : Str) st) (X : K.In h) (G : h.Ns mainGlobals mg) (b : BindA (x : Str) st ps) (md : Mod P w K mg base T k) (hc : chkF T F ps st = true) (hcl : CallsB T F.body) : GoodF P w K mg base (k + 1) x F := by
  obtain ⟨f, oc, od, an, osl, kV, doc, pm, cdv, ct, a, l, c, kk⟩ := d
  have F1 := fun_mk (st := st) l c kk
  exact ⟨k + 1, f, _, ps, sound_fn md F1 hc hcl, Nat.le_refl _, PySem.W.mg_of X G a, kk, F1.binds b⟩
/-- the law's own def -/
theorem law_mk (X : K.In h) (G : h.Ns mainGlobals mg) {fa : Addr} (hfa : mg (x : Str) = some (.ref fa)) (d : DefAt K (x : Str) st) (b : BindA (x : Str) st ps) (hb1 : ∀ (kV doc pm : Value) (an : Option Addr) (cdv ct : Value) (v : Value), bindArgs (PySem.W.fnOf x x (defArgs st) (defBody st) (defScope st) .none kV doc pm an cdv ct) ⟨[v], []⟩ = pure [(("script" : Str), v)])
    (hmod : ∀ base : Heap, K.In base → base.Ns mainGlobals mg → Mod P w K mg base T k) (hc : chkF T F ps st = true) (hcl : CallsB T F.body) (e : ps = [("script" : Str)]) :
    ∃ fd : FuncData, (∀ (s : Shared) (v : Value), BindsTo s fd ⟨[v], []⟩ [("script", v)]) ∧ ∀ base : Heap, K.In base → base.Ns mainGlobals mg → FnOk P w K mg base CX0 (k + 1) fa fd ["script"] (spF ⟨K, w⟩ F) := by
  obtain ⟨f, oc, od, an, osl, kV, doc, pm, cdv, ct, a, l, c, kk⟩ := d
  have e1 := hfa.symm.trans (PySem.W.mg_of X G a)
  cases e1
  subst e
  exact ⟨_, fun s v => .of_eq (hb1 kV doc pm an cdv ct v), fun base hb hg => sound_fn (hmod base hb hg) (fun_mk (st := st) l c kk) hc hcl⟩
/-- the law's promise at its start -/
theorem law_start {H : Hp} {a : Addr} {ns : List Int} (hO : Only H) (hS : SqL K H a (ns.map V.int)) (hw : wpF F [.lst (ns.map .int)] (fun _ => none) (fun _ _ => False) (fun d _ => d = .bl true)) :
    spF ⟨K, w⟩ F [.ref a] H (fun v _ => v = .bl true) fun _ _ _ => False := by
  have sf : SqF ⟨K, w⟩ H a (ns.map V.int) := by
    rcases hS with (h | ⟨o, h⟩) | h
    · rcases hO a with z | ⟨o, xs, z⟩
      · rw [z] at h; cases h
      · rw [z] at h; cases h
    · exact .inl ⟨o, h⟩
    · exact .inr h
  have rs : ∀ ns : List Int, Reps ⟨K, w⟩ H (ns.map .int) (ns.map V.int) := fun ns => by
    induction ns with
    | nil => exact .nil
    | cons n ns ih => exact .cons (.int n) ih
  refine ⟨[.lst (ns.map .int)], fun _ => none, _, _, .cons (.lst sf (rs ns)) .nil, fun a c z => (by cases z), hw, fun d h' v H' q r _ _ => ?_, fun _ _ z => z⟩
  subst q
  cases r
  rfl
end
end Mp
namespace Mp
open PySem
def b__law_hand_2 : B := .cons (.ret (.lst (.cons (.var 1) (.cons (.lit (.int 0)) (.cons (.lit (.int 0)) (.cons (.bin .add (.lit (.int 83)) (.bin .mul (.lit (.int 7)) (.bf .len (.cons (.var 1) .nil)))) (.cons (.lit (.int 0)) .nil))))))) .nil
def b__law_hand_1 : B := .cons (.asg (.name 1) (.comp [2] (.name 2) (.each (.slc (.var 0) .none (.some (.lit (.int 63))))) .none (.bf .abs (.cons (.bf .int (.cons (.var 2) .nil)) .nil)))) b__law_hand_2
def fn__law_hand : Fn := .mk 1 3 b__law_hand_1
def b__law_draw_6 : B := .cons (.asgIx (.var 0) (.lit (.int 2)) (.var 3)) .nil
def b__law_draw_5 : B := .cons (.ifs (.cmp .ge (.var 3) (.bin .pow (.lit (.int 10)) (.lit (.int 18)))) b__law_draw_6 .nil) .nil
def b__law_draw_4 : B := .cons (.asgIx (.var 0) (.lit (.int 3)) (.bin .mod (.bf .int (.cons (.bin .add (.bin .add (.bin .mul (.idx (.var 0) (.lit (.int 3))) (.lit (.int 69621))) (.bin .mul (.var 3) (.lit (.int 40692)))) (.lit (.int 31))) .nil)) (.lit (.int 2147483629)))) b__law_draw_5
def b__law_draw_3 : B := .cons (.asgIx (.var 0) (.lit (.int 1)) (.bin .add (.idx (.var 0) (.lit (.int 1))) (.lit (.int 1)))) b__law_draw_4
def b__law_draw_2 : B := .cons (.asg (.name 3) (.idx (.idx (.var 0) (.lit (.int 0))) (.idx (.var 0) (.lit (.int 1))))) b__law_draw_3
def b__law_draw_10 : B := .cons (.ret (.var 4)) .nil
def b__law_draw_9 : B := .cons (.asgIx (.var 0) (.lit (.int 2)) (.bin .fdiv (.idx (.var 0) (.lit (.int 2))) (.var 1))) b__law_draw_10
def b__law_draw_8 : B := .cons (.asg (.name 4) (.bin .mod (.bf .int (.cons (.idx (.var 0) (.lit (.int 2))) .nil)) (.var 1))) b__law_draw_9
def b__law_draw_15 : B := .cons (.ret (.bin .mod (.bf .int (.cons (.bin .fdiv (.var 2) (.lit (.int 16))) .nil)) (.var 1))) .nil
def b__law_draw_14 : B := .cons (.asg (.name 2) (.bin .mod (.bf .int (.cons (.bin .mul (.var 2) (.bin .add (.bin .fdiv (.var 2) (.lit (.int 2003))) (.lit (.int 40014)))) .nil)) (.lit (.int 2147483563)))) b__law_draw_15
def b__law_draw_13 : B := .cons (.asg (.name 2) (.bin .mod (.bf .int (.cons (.bin .mul (.var 2) (.bin .add (.bin .fdiv (.var 2) (.lit (.int 1009))) (.lit (.int 69621)))) .nil)) (.lit (.int 2147483647)))) b__law_draw_14
def b__law_draw_12 : B := .cons (.asg (.name 2) (.bin .mod (.bf .int (.cons (.bin .mul (.bf .int (.cons (.bin .add (.idx (.var 0) (.lit (.int 3))) (.bin .mul (.lit (.int 7919)) (.idx (.var 0) (.lit (.int 4))))) .nil)) (.lit (.int 48271))) .nil)) (.lit (.int 2147483647)))) b__law_draw_13
def b__law_draw_11 : B := .cons (.asgIx (.var 0) (.lit (.int 4)) (.bin .add (.idx (.var 0) (.lit (.int 4))) (.lit (.int 1)))) b__law_draw_12
def b__law_draw_7 : B := .cons (.ifs (.cmp .gt (.idx (.var 0) (.lit (.int 2))) (.lit (.int 0))) b__law_draw_8 .nil) b__law_draw_11
def b__law_draw_1 : B := .cons (.ifs (.and (.cmp .eq (.idx (.var 0) (.lit (.int 2))) (.lit (.int 0))) (.cmp .lt (.idx (.var 0) (.lit (.int 1))) (.bf .len (.cons (.idx (.var 0) (.lit (.int 0))) .nil)))) b__law_draw_2 .nil) b__law_draw_7
def fn__law_draw : Fn := .mk 2 5 b__law_draw_1
def b__law_place_1 : B := .cons (.ret (.ite (.cmp .lt (.call "_law_draw" fn__law_draw (.cons (.var 0) (.cons (.lit (.int 5)) .nil))) (.lit (.int 2))) (.tup (.cons (.lit (.str [99, 117, 112])) (.cons (.call "_law_draw" fn__law_draw (.cons (.var 0) (.cons (.var 1) .nil))) .nil))) (.tup (.cons (.lit (.str [115, 119, 105, 116, 99, 104])) (.cons (.call "_law_draw" fn__law_draw (.cons (.var 0) (.cons (.var 2) .nil))) .nil))))) .nil
def fn__law_place : Fn := .mk 3 3 b__law_place_1
def b__law_board_4 : B := .cons (.expr (.meth .append (.var 2) (.cons (.bf .tuple (.cons (.comp [6] (.name 6) (.rng1 (.bin .add (.lit (.int 1)) (.call "_law_draw" fn__law_draw (.cons (.var 0) (.cons (.lit (.int 3)) .nil))))) .none (.call "_law_place" fn__law_place (.cons (.var 0) (.cons (.var 4) (.cons (.var 5) .nil))))) .nil)) .nil))) .nil
def b__law_board_5 : B := .cons (.ret (.tup (.cons (.var 4) (.cons (.bf .tuple (.cons (.var 2) .nil)) .nil)))) .nil
def b__law_board_3 : B := .cons (.for_ (.name 3) (.rng1 (.var 5)) b__law_board_4) b__law_board_5
def b__law_board_2 : B := .cons (.asg (.name 2) (.lst .nil)) b__law_board_3
def b__law_board_1 : B := .cons (.asg (.cons (.name 4) (.cons (.name 5) .nil)) (.tup (.cons (.bin .add (.lit (.int 1)) (.call "_law_draw" fn__law_draw (.cons (.var 0) (.cons (.lit (.int 3)) .nil)))) (.cons (.bin .add (.lit (.int 1)) (.call "_law_draw" fn__law_draw (.cons (.var 0) (.cons (.var 1) .nil)))) .nil)))) b__law_board_2
def fn__law_board : Fn := .mk 2 7 b__law_board_1
def b__law_hands_1 : B := .cons (.ret (.bf .tuple (.cons (.comp [2] (.name 2) (.each (.idx (.var 1) (.lit (.int 1)))) .none (.call "_law_draw" fn__law_draw (.cons (.var 0) (.cons (.bf .len (.cons (.var 2) .nil)) .nil)))) .nil))) .nil
def fn__law_hands : Fn := .mk 2 3 b__law_hands_1
def b__law_lost_5 : B := .cons (.expr (.meth .append (.var 1) (.cons (.var 3) .nil))) .nil
def b__law_lost_4 : B := .cons (.ifs (.and (.cmp .notin (.var 3) (.var 1)) (.bf .any (.cons (.comp [5] (.name 5) (.each (.var 4)) .none (.or (.cmp .eq (.idx (.var 5) (.lit (.int 0))) (.lit (.str [99, 117, 112]))) (.cmp .isin (.idx (.var 5) (.lit (.int 1))) (.var 1)))) .nil))) b__law_lost_5 .nil) .nil
def b__law_lost_3 : B := .cons (.for_ (.cons (.name 3) (.cons (.name 4) .nil)) (.enum (.idx (.var 0) (.lit (.int 1)))) b__law_lost_4) .nil
def b__law_lost_6 : B := .cons (.ret (.comp [3] (.name 3) (.rng1 (.bf .len (.cons (.idx (.var 0) (.lit (.int 1))) .nil))) (.some (.cmp .notin (.var 3) (.var 1))) (.var 3))) .nil
def b__law_lost_2 : B := .cons (.for_ (.name 2) (.each (.idx (.var 0) (.lit (.int 1)))) b__law_lost_3) b__law_lost_6
def b__law_lost_1 : B := .cons (.asg (.name 1) (.lst .nil)) b__law_lost_2
def fn__law_lost : Fn := .mk 1 6 b__law_lost_1
def b__law_way_6 : B := .cons (.expr (.meth .append (.var 4) (.cons (.tup (.cons (.var 2) (.cons (.var 1) .nil))) .nil))) .nil
def b__law_way_5 : B := .cons (.asg (.name 1) (.bin .add (.bin .add (.slc (.var 1) .none (.some (.var 5))) (.tup (.cons (.bin .mod (.bf .int (.cons (.bin .add (.idx (.var 1) (.var 5)) (.lit (.int 1))) .nil)) (.bf .len (.cons (.idx (.idx (.var 0) (.lit (.int 1))) (.var 5)) .nil))) .nil))) (.slc (.var 1) (.some (.bin .add (.var 5) (.lit (.int 1)))) .none))) b__law_way_6
def b__law_way_4 : B := .cons (.asg (.name 2) (.idx (.idx (.idx (.var 0) (.lit (.int 1))) (.var 5)) (.idx (.var 1) (.var 5)))) b__law_way_5
def b__law_way_3 : B := .cons (.asg (.name 5) (.idx (.var 2) (.lit (.int 1)))) b__law_way_4
def b__law_way_7 : B := .cons (.ret (.var 4)) .nil
def b__law_way_2 : B := .cons (.whl (.and (.cmp .eq (.idx (.var 2) (.lit (.int 0))) (.lit (.str [115, 119, 105, 116, 99, 104]))) (.cmp .notin (.idx (.var 2) (.lit (.int 1))) (.var 3))) b__law_way_3) b__law_way_7
def b__law_way_1 : B := .cons (.par [3, 4] (.cons (.call "_law_lost" fn__law_lost (.cons (.var 0) .nil)) (.cons (.lst (.cons (.tup (.cons (.var 2) (.cons (.var 1) .nil))) .nil)) .nil))) b__law_way_2
def fn__law_way : Fn := .mk 3 6 b__law_way_1
def b__law_drop_1 : B := .cons (.ret (.idx (.call "_law_way" fn__law_way (.cons (.var 0) (.cons (.var 1) (.cons (.tup (.cons (.lit (.str [115, 119, 105, 116, 99, 104])) (.cons (.var 2) .nil))) .nil)))) (.neg (.lit (.int 1))))) .nil
def fn__law_drop : Fn := .mk 3 3 b__law_drop_1
def b__law_going_7 : B := .cons (.asgIx (.var 4) (.var 8) (.bin .add (.idx (.var 3) (.var 6)) (.tup (.cons (.var 7) .nil)))) .nil
def b__law_going_10 : B := .cons (.expr (.meth .append (.var 2) (.cons (.var 9) .nil))) .nil
def b__law_going_9 : B := .cons (.asgIx (.var 3) (.var 9) (.bin .add (.idx (.var 3) (.var 6)) (.tup (.cons (.var 7) .nil)))) b__law_going_10
def b__law_going_8 : B := .cons (.ifs (.cmp .notin (.var 9) (.var 3)) b__law_going_9 .nil) .nil
def b__law_going_6 : B := .cons (.ifs (.cmp .notin (.var 8) (.var 4)) b__law_going_7 .nil) b__law_going_8
def b__law_going_5 : B := .cons (.asg (.cons (.name 8) (.cons (.name 9) .nil)) (.call "_law_drop" fn__law_drop (.cons (.var 0) (.cons (.var 6) (.cons (.var 7) .nil))))) b__law_going_6
def b__law_going_11 : B := .cons (.asg (.name 5) (.bin .add (.var 5) (.lit (.int 1)))) .nil
def b__law_going_4 : B := .cons (.for_ (.name 7) (.rng1 (.bf .len (.cons (.idx (.var 0) (.lit (.int 1))) .nil))) b__law_going_5) b__law_going_11
def b__law_going_3 : B := .cons (.asg (.name 6) (.idx (.var 2) (.var 5))) b__law_going_4
def b__law_going_12 : B := .cons (.ret (.tup (.cons (.var 2) (.cons (.var 3) (.cons (.var 4) .nil))))) .nil
def b__law_going_2 : B := .cons (.whl (.cmp .lt (.var 5) (.bf .len (.cons (.var 2) .nil))) b__law_going_3) b__law_going_12
def b__law_going_1 : B := .cons (.asg (.cons (.name 2) (.cons (.name 3) (.cons (.name 4) (.cons (.name 5) .nil)))) (.tup (.cons (.lst (.cons (.var 1) .nil)) (.cons (.ddisT (.var 1) (.tup .nil)) (.cons .dnewT (.cons (.lit (.int 0)) .nil)))))) b__law_going_2
def fn__law_going : Fn := .mk 2 10 b__law_going_1
def b__law_rests_1 : B := .cons (.ret (.bin .add (.comp [1] (.name 1) (.rng1 (.idx (.var 0) (.lit (.int 0)))) .none (.tup (.cons (.lit (.str [99, 117, 112])) (.cons (.var 1) .nil)))) (.comp [2] (.name 2) (.each (.call "_law_lost" fn__law_lost (.cons (.var 0) .nil))) .none (.tup (.cons (.lit (.str [115, 119, 105, 116, 99, 104])) (.cons (.var 2) .nil)))))) .nil
def fn__law_rests : Fn := .mk 1 3 b__law_rests_1
def b_is_tuple_of_1 : B := .cons (.ret (.and (.bf (.isi .tuple) (.cons (.var 0) .nil)) (.cmp .eq (.bf .len (.cons (.var 0) .nil)) (.var 1)))) .nil
def fn_is_tuple_of : Fn := .mk 2 2 b_is_tuple_of_1
def b_is_integer_1 : B := .cons (.ret (.and (.bf (.isi .int) (.cons (.var 0) .nil)) (.not (.bf (.isi .bool) (.cons (.var 0) .nil))))) .nil
def fn_is_integer : Fn := .mk 1 1 b_is_integer_1
def b_is_within_1 : B := .cons (.ret (.and (.call "is_integer" fn_is_integer (.cons (.var 0) .nil)) (.chain .le .le (.var 1) (.var 0) (.var 2)))) .nil
def fn_is_within : Fn := .mk 3 3 b_is_within_1
def b_is_place_of_2 : B := .cons (.ret (.lit (.bl false))) .nil
def b_is_place_of_4 : B := .cons (.ret (.call "is_within" fn_is_within (.cons (.idx (.var 2) (.lit (.int 1))) (.cons (.lit (.int 0)) (.cons (.bin .sub (.var 1) (.lit (.int 1))) .nil))))) .nil
def b_is_place_of_5 : B := .cons (.ret (.and (.cmp .eq (.idx (.var 2) (.lit (.int 0))) (.lit (.str [99, 117, 112]))) (.call "is_within" fn_is_within (.cons (.idx (.var 2) (.lit (.int 1))) (.cons (.lit (.int 0)) (.cons (.bin .sub (.var 0) (.lit (.int 1))) .nil)))))) .nil
def b_is_place_of_3 : B := .cons (.ifs (.cmp .eq (.idx (.var 2) (.lit (.int 0))) (.lit (.str [115, 119, 105, 116, 99, 104]))) b_is_place_of_4 .nil) b_is_place_of_5
def b_is_place_of_1 : B := .cons (.ifs (.or (.not (.call "is_tuple_of" fn_is_tuple_of (.cons (.var 2) (.cons (.lit (.int 2)) .nil)))) (.not (.bf (.isi .str) (.cons (.idx (.var 2) (.lit (.int 0))) .nil)))) b_is_place_of_2 .nil) b_is_place_of_3
def fn_is_place_of : Fn := .mk 3 3 b_is_place_of_1
def b_is_board_2 : B := .cons (.ret (.lit (.bl false))) .nil
def b_is_board_5 : B := .cons (.ret (.lit (.bl false))) .nil
def b_is_board_8 : B := .cons (.ret (.lit (.bl false))) .nil
def b_is_board_10 : B := .cons (.ret (.lit (.bl false))) .nil
def b_is_board_9 : B := .cons (.ifs (.not (.bf .all (.cons (.comp [4] (.name 4) (.each (.var 1)) .none (.call "is_place_of" fn_is_place_of (.cons (.var 2) (.cons (.bf .len (.cons (.var 3) .nil)) (.cons (.var 4) .nil))))) .nil))) b_is_board_10 .nil) .nil
def b_is_board_7 : B := .cons (.ifs (.or (.not (.bf (.isi .tuple) (.cons (.var 1) .nil))) (.not (.chain .le .le (.lit (.int 1)) (.bf .len (.cons (.var 1) .nil)) (.lit (.int 4))))) b_is_board_8 .nil) b_is_board_9
def b_is_board_11 : B := .cons (.ret (.lit (.bl true))) .nil
def b_is_board_6 : B := .cons (.for_ (.name 1) (.each (.var 3)) b_is_board_7) b_is_board_11
def b_is_board_4 : B := .cons (.ifs (.not (.chain .le .le (.lit (.int 1)) (.bf .len (.cons (.var 3) .nil)) (.lit (.int 24)))) b_is_board_5 .nil) b_is_board_6
def b_is_board_3 : B := .cons (.asg (.cons (.name 2) (.cons (.name 3) .nil)) (.var 0)) b_is_board_4
def b_is_board_1 : B := .cons (.ifs (.or (.not (.call "is_tuple_of" fn_is_tuple_of (.cons (.var 0) (.cons (.lit (.int 2)) .nil)))) (.or (.not (.call "is_within" fn_is_within (.cons (.idx (.var 0) (.lit (.int 0))) (.cons (.lit (.int 1)) (.cons (.lit (.int 4)) .nil))))) (.not (.bf (.isi .tuple) (.cons (.idx (.var 0) (.lit (.int 1))) .nil))))) b_is_board_2 .nil) b_is_board_3
def fn_is_board : Fn := .mk 1 5 b_is_board_1
def b_check_board_2 : B := .cons (.raise "NoBoard" .nil) .nil
def b_check_board_1 : B := .cons (.ifs (.not (.call "is_board" fn_is_board (.cons (.var 0) .nil))) b_check_board_2 .nil) .nil
def fn_check_board : Fn := .mk 1 1 b_check_board_1
def b_raw_is_hands_2 : B := .cons (.ret (.lit (.bl false))) .nil
def b_raw_is_hands_3 : B := .cons (.ret (.bf .all (.cons (.comp [2, 3] (.cons (.name 2) (.cons (.name 3) .nil)) (.zip (.var 1) (.idx (.var 0) (.lit (.int 1)))) .none (.call "is_within" fn_is_within (.cons (.var 2) (.cons (.lit (.int 0)) (.cons (.bin .sub (.bf .len (.cons (.var 3) .nil)) (.lit (.int 1))) .nil))))) .nil))) .nil
def b_raw_is_hands_1 : B := .cons (.ifs (.not (.call "is_tuple_of" fn_is_tuple_of (.cons (.var 1) (.cons (.bf .len (.cons (.idx (.var 0) (.lit (.int 1))) .nil)) .nil)))) b_raw_is_hands_2 .nil) b_raw_is_hands_3
def fn_raw_is_hands : Fn := .mk 2 4 b_raw_is_hands_1
def b_check_hands_3 : B := .cons (.raise "NoHands" .nil) .nil
def b_check_hands_2 : B := .cons (.ifs (.not (.call "raw_is_hands" fn_raw_is_hands (.cons (.var 0) (.cons (.var 1) .nil)))) b_check_hands_3 .nil) .nil
def b_check_hands_1 : B := .cons (.expr (.call "check_board" fn_check_board (.cons (.var 0) .nil))) b_check_hands_2
def fn_check_hands : Fn := .mk 2 2 b_check_hands_1
def b_is_switch_1 : B := .cons (.ret (.and (.bf (.isi .int) (.cons (.var 1) .nil)) (.and (.not (.bf (.isi .bool) (.cons (.var 1) .nil))) (.chain .le .lt (.lit (.int 0)) (.var 1) (.bf .len (.cons (.idx (.var 0) (.lit (.int 1))) .nil)))))) .nil
def fn_is_switch : Fn := .mk 2 2 b_is_switch_1
def b_check_switch_2 : B := .cons (.raise "NoSwitch" .nil) .nil
def b_check_switch_1 : B := .cons (.ifs (.not (.call "is_switch" fn_is_switch (.cons (.var 0) (.cons (.var 1) .nil)))) b_check_switch_2 .nil) .nil
def fn_check_switch : Fn := .mk 2 2 b_check_switch_1
def b_raw_is_place_1 : B := .cons (.ret (.call "is_place_of" fn_is_place_of (.cons (.idx (.var 0) (.lit (.int 0))) (.cons (.bf .len (.cons (.idx (.var 0) (.lit (.int 1))) .nil)) (.cons (.var 1) .nil))))) .nil
def fn_raw_is_place : Fn := .mk 2 2 b_raw_is_place_1
def b_raw_lost_6 : B := .cons (.expr (.meth .append (.var 3) (.cons (.var 4) .nil))) .nil
def b_raw_lost_5 : B := .cons (.ifs (.and (.cmp .notin (.var 4) (.var 1)) (.bf .any (.cons (.comp [6, 7] (.cons (.name 6) (.cons (.name 7) .nil)) (.each (.var 5)) .none (.or (.cmp .eq (.var 6) (.lit (.str [99, 117, 112]))) (.cmp .isin (.var 7) (.var 1)))) .nil))) b_raw_lost_6 .nil) .nil
def b_raw_lost_8 : B := .cons (.asg (.name 2) (.cmp .gt (.bf .len (.cons (.var 3) .nil)) (.lit (.int 0)))) .nil
def b_raw_lost_7 : B := .cons (.expr (.meth .update (.var 1) (.cons (.dcomp [4] (.name 4) (.each (.var 3)) .none (.var 4) (.lit (.bl true))) .nil))) b_raw_lost_8
def b_raw_lost_4 : B := .cons (.for_ (.cons (.name 4) (.cons (.name 5) .nil)) (.enum (.idx (.var 0) (.lit (.int 1)))) b_raw_lost_5) b_raw_lost_7
def b_raw_lost_3 : B := .cons (.asg (.name 3) (.lst .nil)) b_raw_lost_4
def b_raw_lost_9 : B := .cons (.ret (.comp [4] (.name 4) (.rng1 (.bf .len (.cons (.idx (.var 0) (.lit (.int 1))) .nil))) (.some (.cmp .notin (.var 4) (.var 1))) (.var 4))) .nil
def b_raw_lost_2 : B := .cons (.whl (.var 2) b_raw_lost_3) b_raw_lost_9
def b_raw_lost_1 : B := .cons (.asg (.cons (.name 1) (.cons (.name 2) .nil)) (.tup (.cons .dnew (.cons (.lit (.bl true)) .nil)))) b_raw_lost_2
def fn_raw_lost : Fn := .mk 1 8 b_raw_lost_1
def b_raw_all_rests_1 : B := .cons (.ret (.bin .add (.comp [1] (.name 1) (.rng1 (.idx (.var 0) (.lit (.int 0)))) .none (.tup (.cons (.lit (.str [99, 117, 112])) (.cons (.var 1) .nil)))) (.comp [2] (.name 2) (.each (.call "raw_lost" fn_raw_lost (.cons (.var 0) .nil))) .none (.tup (.cons (.lit (.str [115, 119, 105, 116, 99, 104])) (.cons (.var 2) .nil)))))) .nil
def fn_raw_all_rests : Fn := .mk 1 3 b_raw_all_rests_1
def b_check_rest_2 : B := .cons (.raise "NoRest" .nil) .nil
def b_check_rest_1 : B := .cons (.ifs (.or (.not (.call "raw_is_place" fn_raw_is_place (.cons (.var 0) (.cons (.var 1) .nil)))) (.cmp .notin (.var 1) (.call "raw_all_rests" fn_raw_all_rests (.cons (.var 0) .nil)))) b_check_rest_2 .nil) .nil
def fn_check_rest : Fn := .mk 2 2 b_check_rest_1
def b_raw_rests_1 : B := .cons (.ret (.or (.cmp .eq (.idx (.var 1) (.lit (.int 0))) (.lit (.str [99, 117, 112]))) (.cmp .isin (.idx (.var 1) (.lit (.int 1))) (.var 0)))) .nil
def fn_raw_rests : Fn := .mk 2 2 b_raw_rests_1
def b_raw_run_7 : B := .cons (.aug .add 6 (.lit (.int 1))) .nil
def b_raw_run_6 : B := .cons (.asgIx (.var 5) (.var 7) (.ite (.cmp .lt (.bin .add (.idx (.var 5) (.var 7)) (.lit (.int 1))) (.bf .len (.cons (.var 8) .nil))) (.bin .add (.idx (.var 5) (.var 7)) (.lit (.int 1))) (.lit (.int 0)))) b_raw_run_7
def b_raw_run_5 : B := .cons (.asg (.name 2) (.idx (.var 8) (.idx (.var 5) (.var 7)))) b_raw_run_6
def b_raw_run_4 : B := .cons (.asg (.name 8) (.idx (.idx (.var 0) (.lit (.int 1))) (.var 7))) b_raw_run_5
def b_raw_run_3 : B := .cons (.asg (.name 7) (.idx (.var 2) (.lit (.int 1)))) b_raw_run_4
def b_raw_run_8 : B := .cons (.ret (.tup (.cons (.var 2) (.cons (.bf .tuple (.cons (.var 5) .nil)) (.cons (.var 6) (.cons (.call "raw_rests" fn_raw_rests (.cons (.var 4) (.cons (.var 2) .nil))) .nil)))))) .nil
def b_raw_run_2 : B := .cons (.whl (.and (.cmp .lt (.var 6) (.var 3)) (.not (.call "raw_rests" fn_raw_rests (.cons (.var 4) (.cons (.var 2) .nil))))) b_raw_run_3) b_raw_run_8
def b_raw_run_1 : B := .cons (.par [4, 5, 6] (.cons (.call "raw_lost" fn_raw_lost (.cons (.var 0) .nil)) (.cons (.bf .list (.cons (.var 1) .nil)) (.cons (.lit (.int 0)) .nil)))) b_raw_run_2
def fn_raw_run : Fn := .mk 4 9 b_raw_run_1
def b_raw_comes_3 : B := .cons (.raise "TooMany" (.cons (.lit (.int 200000)) .nil)) .nil
def b_raw_comes_4 : B := .cons (.ret (.tup (.cons (.var 3) (.cons (.var 4) .nil)))) .nil
def b_raw_comes_2 : B := .cons (.ifs (.not (.var 6)) b_raw_comes_3 .nil) b_raw_comes_4
def b_raw_comes_1 : B := .cons (.asg (.cons (.name 3) (.cons (.name 4) (.cons (.name 5) (.cons (.name 6) .nil)))) (.call "raw_run" fn_raw_run (.cons (.var 0) (.cons (.var 1) (.cons (.tup (.cons (.lit (.str [115, 119, 105, 116, 99, 104])) (.cons (.var 2) .nil))) (.cons (.lit (.int 200000)) .nil)))))) b_raw_comes_2
def fn_raw_comes : Fn := .mk 3 7 b_raw_comes_1
def b_first_drop_8 : B := .cons (.raise "TooMany" (.cons (.lit (.int 20000)) .nil)) .nil
def b_first_drop_13 : B := .cons (.ret (.var 5)) .nil
def b_first_drop_12 : B := .cons (.ifs (.cmp .eq (.var 6) (.var 3)) b_first_drop_13 .nil) .nil
def b_first_drop_11 : B := .cons (.asg (.cons (.name 6) (.cons (.name 1) .nil)) (.call "raw_comes" fn_raw_comes (.cons (.var 0) (.cons (.var 1) (.cons (.var 2) .nil))))) b_first_drop_12
def b_first_drop_10 : B := .cons (.aug .add 5 (.lit (.int 1))) b_first_drop_11
def b_first_drop_9 : B := .cons (.asgIx (.var 4) (.var 1) (.lit (.bl true))) b_first_drop_10
def b_first_drop_7 : B := .cons (.ifs (.cmp .eq (.var 5) (.lit (.int 20000))) b_first_drop_8 .nil) b_first_drop_9
def b_first_drop_14 : B := .cons (.ret (.lit .non)) .nil
def b_first_drop_6 : B := .cons (.whl (.cmp .notin (.var 1) (.var 4)) b_first_drop_7) b_first_drop_14
def b_first_drop_5 : B := .cons (.par [4, 5] (.cons .dnewT (.cons (.lit (.int 0)) .nil))) b_first_drop_6
def b_first_drop_4 : B := .cons (.expr (.call "check_rest" fn_check_rest (.cons (.var 0) (.cons (.var 3) .nil)))) b_first_drop_5
def b_first_drop_3 : B := .cons (.expr (.call "check_switch" fn_check_switch (.cons (.var 0) (.cons (.var 2) .nil)))) b_first_drop_4
def b_first_drop_2 : B := .cons (.expr (.call "check_hands" fn_check_hands (.cons (.var 0) (.cons (.var 1) .nil)))) b_first_drop_3
def b_first_drop_1 : B := .cons (.expr (.call "check_board" fn_check_board (.cons (.var 0) .nil))) b_first_drop_2
def fn_first_drop : Fn := .mk 4 7 b_first_drop_1
def b__law_first_7 : B := .cons (.ret (.var 5)) .nil
def b__law_first_6 : B := .cons (.ifs (.cmp .eq (.var 6) (.var 3)) b__law_first_7 .nil) .nil
def b__law_first_5 : B := .cons (.asg (.name 5) (.bin .add (.var 5) (.lit (.int 1)))) b__law_first_6
def b__law_first_4 : B := .cons (.asg (.cons (.name 6) (.cons (.name 1) .nil)) (.call "_law_drop" fn__law_drop (.cons (.var 0) (.cons (.var 1) (.cons (.var 2) .nil))))) b__law_first_5
def b__law_first_3 : B := .cons (.expr (.meth .append (.var 4) (.cons (.var 1) .nil))) b__law_first_4
def b__law_first_8 : B := .cons (.ret (.lit .non)) .nil
def b__law_first_2 : B := .cons (.whl (.cmp .notin (.var 1) (.var 4)) b__law_first_3) b__law_first_8
def b__law_first_1 : B := .cons (.par [4, 5] (.cons (.lst .nil) (.cons (.lit (.int 0)) .nil))) b__law_first_2
def fn__law_first : Fn := .mk 4 7 b__law_first_1
def b_Going_is_over_1 : B := .cons (.ret (.cmp .eq (.bf .len (.cons (.fld "Going" (.var 0) "going_level") .nil)) (.lit (.int 0)))) .nil
def fn_Going_is_over : Fn := .mk 1 1 b_Going_is_over_1
def b_Going_next_level_8 : B := .cons (.raise "TooMany" (.cons (.lit (.int 5000)) .nil)) .nil
def b_Going_next_level_10 : B := .cons (.expr (.meth .append (.var 3) (.cons (.var 6) .nil))) .nil
def b_Going_next_level_9 : B := .cons (.asgIx (.fld "Going" (.var 0) "going_rows") (.var 6) (.bin .add (.idx (.fld "Going" (.var 0) "going_rows") (.var 1)) (.tup (.cons (.var 4) .nil)))) b_Going_next_level_10
def b_Going_next_level_7 : B := .cons (.ifs (.cmp .eq (.bf .len (.cons (.fld "Going" (.var 0) "going_rows") .nil)) (.lit (.int 5000))) b_Going_next_level_8 .nil) b_Going_next_level_9
def b_Going_next_level_6 : B := .cons (.ifs (.cmp .notin (.var 6) (.fld "Going" (.var 0) "going_rows")) b_Going_next_level_7 .nil) .nil
def b_Going_next_level_5 : B := .cons (.expr (.meth .append (.var 2) (.cons (.tup (.cons (.var 1) (.cons (.var 4) (.cons (.var 5) .nil)))) .nil))) b_Going_next_level_6
def b_Going_next_level_4 : B := .cons (.asg (.cons (.name 5) (.cons (.name 6) .nil)) (.call "raw_comes" fn_raw_comes (.cons (.fld "Going" (.var 0) "going_board") (.cons (.var 1) (.cons (.var 4) .nil))))) b_Going_next_level_5
def b_Going_next_level_3 : B := .cons (.for_ (.name 4) (.rng1 (.bf .len (.cons (.idx (.fld "Going" (.var 0) "going_board") (.lit (.int 1))) .nil))) b_Going_next_level_4) .nil
def b_Going_next_level_12 : B := .cons (.ret (.var 2)) .nil
def b_Going_next_level_11 : B := .cons (.fset "Going" (.var 0) "going_level" (.var 3)) b_Going_next_level_12
def b_Going_next_level_2 : B := .cons (.for_ (.name 1) (.each (.fld "Going" (.var 0) "going_level")) b_Going_next_level_3) b_Going_next_level_11
def b_Going_next_level_1 : B := .cons (.par [2, 3] (.cons (.lst .nil) (.cons (.lst .nil) .nil))) b_Going_next_level_2
def fn_Going_next_level : Fn := .mk 1 7 b_Going_next_level_1
def b_Going___init___3 : B := .cons (.fset "Going" (.var 0) "going_level" (.lst (.cons (.var 2) .nil))) .nil
def b_Going___init___2 : B := .cons (.fset "Going" (.var 0) "going_rows" (.ddisT (.var 2) (.tup .nil))) b_Going___init___3
def b_Going___init___1 : B := .cons (.fset "Going" (.var 0) "going_board" (.var 1)) b_Going___init___2
def fn_Going___init__ : Fn := .mk 3 3 b_Going___init___1
def b_shortest_row_8 : B := .cons (.ret (.bin .add (.idx (.fld "Going" (.var 3) "going_rows") (.var 4)) (.tup (.cons (.var 5) .nil)))) .nil
def b_shortest_row_7 : B := .cons (.ifs (.cmp .eq (.var 6) (.var 2)) b_shortest_row_8 .nil) .nil
def b_shortest_row_6 : B := .cons (.for_ (.cons (.name 4) (.cons (.name 5) (.cons (.name 6) .nil))) (.each (.mcall "Going" "next_level" fn_Going_next_level (.var 3) .nil)) b_shortest_row_7) .nil
def b_shortest_row_9 : B := .cons (.ret (.lit .non)) .nil
def b_shortest_row_5 : B := .cons (.whl (.not (.mcall "Going" "is_over" fn_Going_is_over (.var 3) .nil)) b_shortest_row_6) b_shortest_row_9
def b_shortest_row_4 : B := .cons (.asg (.name 3) (.new "Going" fn_Going___init__ (.cons (.var 0) (.cons (.var 1) .nil)))) b_shortest_row_5
def b_shortest_row_3 : B := .cons (.expr (.call "check_rest" fn_check_rest (.cons (.var 0) (.cons (.var 2) .nil)))) b_shortest_row_4
def b_shortest_row_2 : B := .cons (.expr (.call "check_hands" fn_check_hands (.cons (.var 0) (.cons (.var 1) .nil)))) b_shortest_row_3
def b_shortest_row_1 : B := .cons (.expr (.call "check_board" fn_check_board (.cons (.var 0) .nil))) b_shortest_row_2
def fn_shortest_row : Fn := .mk 3 7 b_shortest_row_1
def b_are_few_places_2 : B := .cons (.ret (.lit (.bl false))) .nil
def b_are_few_places_3 : B := .cons (.ret (.bf .all (.cons (.comp [2] (.name 2) (.each (.var 1)) .none (.call "raw_is_place" fn_raw_is_place (.cons (.var 0) (.cons (.var 2) .nil)))) .nil))) .nil
def b_are_few_places_1 : B := .cons (.ifs (.or (.not (.bf (.isi .tuple) (.cons (.var 1) .nil))) (.cmp .gt (.bf .len (.cons (.var 1) .nil)) (.lit (.int 60)))) b_are_few_places_2 .nil) b_are_few_places_3
def fn_are_few_places : Fn := .mk 2 3 b_are_few_places_1
def b_raw_whole_3 : B := .cons (.raise "TooMany" (.cons (.lit (.int 200000)) .nil)) .nil
def b_raw_whole_4 : B := .cons (.ret (.tup (.cons (.var 3) (.cons (.var 4) (.cons (.var 5) .nil))))) .nil
def b_raw_whole_2 : B := .cons (.ifs (.not (.var 6)) b_raw_whole_3 .nil) b_raw_whole_4
def b_raw_whole_1 : B := .cons (.asg (.cons (.name 3) (.cons (.name 4) (.cons (.name 5) (.cons (.name 6) .nil)))) (.call "raw_run" fn_raw_run (.cons (.var 0) (.cons (.var 1) (.cons (.var 2) (.cons (.lit (.int 200000)) .nil)))))) b_raw_whole_2
def fn_raw_whole : Fn := .mk 3 7 b_raw_whole_1
def b_raw_drops_4 : B := .cons (.expr (.meth .append (.var 3) (.cons (.var 5) .nil))) .nil
def b_raw_drops_3 : B := .cons (.asg (.cons (.name 5) (.cons (.name 1) (.cons (.name 6) .nil))) (.call "raw_whole" fn_raw_whole (.cons (.var 0) (.cons (.var 1) (.cons (.var 4) .nil))))) b_raw_drops_4
def b_raw_drops_5 : B := .cons (.ret (.tup (.cons (.var 3) (.cons (.var 1) .nil)))) .nil
def b_raw_drops_2 : B := .cons (.for_ (.name 4) (.each (.var 2)) b_raw_drops_3) b_raw_drops_5
def b_raw_drops_1 : B := .cons (.asg (.name 3) (.lst .nil)) b_raw_drops_2
def fn_raw_drops : Fn := .mk 3 7 b_raw_drops_1
def b_drops_3 : B := .cons (.raise "NoPlaces" .nil) .nil
def b_drops_5 : B := .cons (.ret (.tup (.cons (.bf .tuple (.cons (.var 3) .nil)) (.cons (.var 4) .nil)))) .nil
def b_drops_4 : B := .cons (.asg (.cons (.name 3) (.cons (.name 4) .nil)) (.call "raw_drops" fn_raw_drops (.cons (.var 0) (.cons (.var 1) (.cons (.var 2) .nil))))) b_drops_5
def b_drops_2 : B := .cons (.ifs (.not (.call "are_few_places" fn_are_few_places (.cons (.var 0) (.cons (.var 2) .nil)))) b_drops_3 .nil) b_drops_4
def b_drops_1 : B := .cons (.expr (.call "check_hands" fn_check_hands (.cons (.var 0) (.cons (.var 1) .nil)))) b_drops_2
def fn_drops : Fn := .mk 3 5 b_drops_1
def b_hands_led_to_5 : B := .cons (.expr (.mcall "Going" "next_level" fn_Going_next_level (.var 2) .nil)) .nil
def b_hands_led_to_6 : B := .cons (.ret (.bf .tuple (.cons (.bf .sorted (.cons (.fld "Going" (.var 2) "going_rows") .nil)) .nil))) .nil
def b_hands_led_to_4 : B := .cons (.whl (.not (.mcall "Going" "is_over" fn_Going_is_over (.var 2) .nil)) b_hands_led_to_5) b_hands_led_to_6
def b_hands_led_to_3 : B := .cons (.asg (.name 2) (.new "Going" fn_Going___init__ (.cons (.var 0) (.cons (.var 1) .nil)))) b_hands_led_to_4
def b_hands_led_to_2 : B := .cons (.expr (.call "check_hands" fn_check_hands (.cons (.var 0) (.cons (.var 1) .nil)))) b_hands_led_to_3
def b_hands_led_to_1 : B := .cons (.expr (.call "check_board" fn_check_board (.cons (.var 0) .nil))) b_hands_led_to_2
def fn_hands_led_to : Fn := .mk 2 3 b_hands_led_to_1
def b__law_any_1 : B := .cons (.ret (.idx (.var 1) (.call "_law_draw" fn__law_draw (.cons (.var 0) (.cons (.bf .len (.cons (.var 1) .nil)) .nil))))) .nil
def fn__law_any : Fn := .mk 2 2 b__law_any_1
def b_row_to_6 : B := .cons (.expr (.mcall "Going" "next_level" fn_Going_next_level (.var 3) .nil)) .nil
def b_row_to_7 : B := .cons (.ret (.dget (.fld "Going" (.var 3) "going_rows") (.var 2) (.cons (.lit .non) .nil))) .nil
def b_row_to_5 : B := .cons (.whl (.and (.not (.mcall "Going" "is_over" fn_Going_is_over (.var 3) .nil)) (.cmp .notin (.var 2) (.fld "Going" (.var 3) "going_rows"))) b_row_to_6) b_row_to_7
def b_row_to_4 : B := .cons (.asg (.name 3) (.new "Going" fn_Going___init__ (.cons (.var 0) (.cons (.var 1) .nil)))) b_row_to_5
def b_row_to_3 : B := .cons (.expr (.call "check_hands" fn_check_hands (.cons (.var 0) (.cons (.var 2) .nil)))) b_row_to_4
def b_row_to_2 : B := .cons (.expr (.call "check_hands" fn_check_hands (.cons (.var 0) (.cons (.var 1) .nil)))) b_row_to_3
def b_row_to_1 : B := .cons (.expr (.call "check_board" fn_check_board (.cons (.var 0) .nil))) b_row_to_2
def fn_row_to : Fn := .mk 3 4 b_row_to_1
def b_law_8 : B := .cons (.ret (.lit (.bl false))) .nil
def b_law_11 : B := .cons (.ret (.lit (.bl false))) .nil
def b_law_13 : B := .cons (.ret (.lit (.bl false))) .nil
def b_law_12 : B := .cons (.ifs (.and (.cmp .isnot (.var 11) (.lit .non)) (.cmp .ne (.idx (.idx (.call "drops" fn_drops (.cons (.var 3) (.cons (.var 6) (.cons (.bf .tuple (.cons (.comp [12] (.name 12) (.each (.var 11)) .none (.tup (.cons (.lit (.str [115, 119, 105, 116, 99, 104])) (.cons (.var 12) .nil)))) .nil)) .nil)))) (.lit (.int 0))) (.neg (.lit (.int 1)))) (.var 4))) b_law_13 .nil) .nil
def b_law_10 : B := .cons (.ifs (.cmp .ne (.var 11) (.dget (.var 10) (.var 4) .nil)) b_law_11 .nil) b_law_12
def b_law_9 : B := .cons (.asg (.name 11) (.call "shortest_row" fn_shortest_row (.cons (.var 3) (.cons (.var 6) (.cons (.var 4) .nil))))) b_law_10
def b_law_7 : B := .cons (.ifs (.cmp .ne (.call "first_drop" fn_first_drop (.cons (.var 3) (.cons (.var 6) (.cons (.var 7) (.cons (.var 4) .nil))))) (.call "_law_first" fn__law_first (.cons (.var 3) (.cons (.var 6) (.cons (.var 7) (.cons (.var 4) .nil)))))) b_law_8 .nil) b_law_9
def b_law_15 : B := .cons (.ret (.lit (.bl false))) .nil
def b_law_19 : B := .cons (.ret (.lit (.bl false))) .nil
def b_law_22 : B := .cons (.ret (.lit (.bl false))) .nil
def b_law_21 : B := .cons (.ifs (.cmp .ne (.idx (.call "drops" fn_drops (.cons (.var 3) (.cons (.var 6) (.cons (.bf .tuple (.cons (.comp [12] (.name 12) (.each (.var 11)) .none (.tup (.cons (.lit (.str [115, 119, 105, 116, 99, 104])) (.cons (.var 12) .nil)))) .nil)) .nil)))) (.lit (.int 1))) (.var 5)) b_law_22 .nil) .nil
def b_law_20 : B := .cons (.ifs (.and (.cmp .isnot (.var 11) (.lit .non)) (.cmp .le (.bf .len (.cons (.var 11) .nil)) (.lit (.int 60)))) b_law_21 .nil) .nil
def b_law_18 : B := .cons (.ifs (.cmp .ne (.var 11) (.dget (.var 9) (.var 5) .nil)) b_law_19 .nil) b_law_20
def b_law_17 : B := .cons (.asg (.name 11) (.call "row_to" fn_row_to (.cons (.var 3) (.cons (.var 6) (.cons (.var 5) .nil))))) b_law_18
def b_law_16 : B := .cons (.for_ (.name 5) (.each (.tup (.cons (.call "_law_hands" fn__law_hands (.cons (.var 1) (.cons (.var 3) .nil))) (.cons (.call "_law_any" fn__law_any (.cons (.var 1) (.cons (.var 8) .nil))) .nil)))) b_law_17) .nil
def b_law_14 : B := .cons (.ifs (.cmp .ne (.call "hands_led_to" fn_hands_led_to (.cons (.var 3) (.cons (.var 6) .nil))) (.bf .tuple (.cons (.bf .sorted (.cons (.var 8) .nil)) .nil))) b_law_15 .nil) b_law_16
def b_law_6 : B := .cons (.for_ (.name 4) (.each (.call "_law_rests" fn__law_rests (.cons (.var 3) .nil))) b_law_7) b_law_14
def b_law_5 : B := .cons (.asg (.cons (.name 8) (.cons (.name 9) (.cons (.name 10) .nil))) (.call "_law_going" fn__law_going (.cons (.var 3) (.cons (.var 6) .nil)))) b_law_6
def b_law_4 : B := .cons (.par [6, 7] (.cons (.call "_law_hands" fn__law_hands (.cons (.var 1) (.cons (.var 3) .nil))) (.cons (.call "_law_draw" fn__law_draw (.cons (.var 1) (.cons (.bf .len (.cons (.idx (.var 3) (.lit (.int 1))) .nil)) .nil))) .nil))) b_law_5
def b_law_3 : B := .cons (.asg (.name 3) (.call "_law_board" fn__law_board (.cons (.var 1) (.cons (.lit (.int 4)) .nil)))) b_law_4
def b_law_23 : B := .cons (.ret (.lit (.bl true))) .nil
def b_law_2 : B := .cons (.for_ (.name 2) (.rng1 (.lit (.int 3))) b_law_3) b_law_23
def b_law_1 : B := .cons (.asg (.name 1) (.call "_law_hand" fn__law_hand (.cons (.var 0) .nil))) b_law_2
def fn_law : Fn := .mk 1 13 b_law_1
end Mp
namespace Mp
open PySem PySem.Spec L2
def T__law_hand : Tx := ⟨["script", "cells", "cell"], [], fun x F => (x, F) ∈ ([] : List (String × Fn)), [("Going", ["going_board", "going_rows", "going_level"])], fun c m F => ((c, m), F) ∈ ([] : List ((Str × Str) × Fn)), fun c F => (c, F) ∈ ([] : List (Str × Fn))⟩
def T__law_draw : Tx := ⟨["hand", "many", "number", "cell", "digit"], [], fun x F => (x, F) ∈ ([] : List (String × Fn)), [("Going", ["going_board", "going_rows", "going_level"])], fun c m F => ((c, m), F) ∈ ([] : List ((Str × Str) × Fn)), fun c F => (c, F) ∈ ([] : List (Str × Fn))⟩
def T__law_place : Tx := ⟨["hand", "cups", "many"], [], fun x F => (x, F) ∈ ([("_law_draw", fn__law_draw)] : List (String × Fn)), [("Going", ["going_board", "going_rows", "going_level"])], fun c m F => ((c, m), F) ∈ ([] : List ((Str × Str) × Fn)), fun c F => (c, F) ∈ ([] : List (Str × Fn))⟩
def T__law_board : Tx := ⟨["hand", "most", "switches", "s", "cups", "many", "exit"], [], fun x F => (x, F) ∈ ([("_law_draw", fn__law_draw), ("_law_place", fn__law_place)] : List (String × Fn)), [("Going", ["going_board", "going_rows", "going_level"])], fun c m F => ((c, m), F) ∈ ([] : List ((Str × Str) × Fn)), fun c F => (c, F) ∈ ([] : List (Str × Fn))⟩
def T__law_hands : Tx := ⟨["hand", "board", "exits"], [], fun x F => (x, F) ∈ ([("_law_draw", fn__law_draw)] : List (String × Fn)), [("Going", ["going_board", "going_rows", "going_level"])], fun c m F => ((c, m), F) ∈ ([] : List ((Str × Str) × Fn)), fun c F => (c, F) ∈ ([] : List (Str × Fn))⟩
def T__law_lost : Tx := ⟨["board", "good", "step", "s", "exits", "place"], [], fun x F => (x, F) ∈ ([] : List (String × Fn)), [("Going", ["going_board", "going_rows", "going_level"])], fun c m F => ((c, m), F) ∈ ([] : List ((Str × Str) × Fn)), fun c F => (c, F) ∈ ([] : List (Str × Fn))⟩
def T__law_way : Tx := ⟨["board", "hands", "place", "gone", "found", "s"], [], fun x F => (x, F) ∈ ([("_law_lost", fn__law_lost)] : List (String × Fn)), [("Going", ["going_board", "going_rows", "going_level"])], fun c m F => ((c, m), F) ∈ ([] : List ((Str × Str) × Fn)), fun c F => (c, F) ∈ ([] : List (Str × Fn))⟩
def T__law_drop : Tx := ⟨["board", "hands", "s"], [], fun x F => (x, F) ∈ ([("_law_way", fn__law_way)] : List (String × Fn)), [("Going", ["going_board", "going_rows", "going_level"])], fun c m F => ((c, m), F) ∈ ([] : List ((Str × Str) × Fn)), fun c F => (c, F) ∈ ([] : List (Str × Fn))⟩
def T__law_going : Tx := ⟨["board", "hands", "order", "rows", "ends", "at", "here", "s", "end", "later"], [], fun x F => (x, F) ∈ ([("_law_drop", fn__law_drop)] : List (String × Fn)), [("Going", ["going_board", "going_rows", "going_level"])], fun c m F => ((c, m), F) ∈ ([] : List ((Str × Str) × Fn)), fun c F => (c, F) ∈ ([] : List (Str × Fn))⟩
def T__law_rests : Tx := ⟨["board", "c", "s"], [], fun x F => (x, F) ∈ ([("_law_lost", fn__law_lost)] : List (String × Fn)), [("Going", ["going_board", "going_rows", "going_level"])], fun c m F => ((c, m), F) ∈ ([] : List ((Str × Str) × Fn)), fun c F => (c, F) ∈ ([] : List (Str × Fn))⟩
def T_is_tuple_of : Tx := ⟨["thing", "size"], [], fun x F => (x, F) ∈ ([] : List (String × Fn)), [("Going", ["going_board", "going_rows", "going_level"])], fun c m F => ((c, m), F) ∈ ([] : List ((Str × Str) × Fn)), fun c F => (c, F) ∈ ([] : List (Str × Fn))⟩
def T_is_integer : Tx := ⟨["thing"], [], fun x F => (x, F) ∈ ([] : List (String × Fn)), [("Going", ["going_board", "going_rows", "going_level"])], fun c m F => ((c, m), F) ∈ ([] : List ((Str × Str) × Fn)), fun c F => (c, F) ∈ ([] : List (Str × Fn))⟩
def T_is_within : Tx := ⟨["thing", "low", "high"], [], fun x F => (x, F) ∈ ([("is_integer", fn_is_integer)] : List (String × Fn)), [("Going", ["going_board", "going_rows", "going_level"])], fun c m F => ((c, m), F) ∈ ([] : List ((Str × Str) × Fn)), fun c F => (c, F) ∈ ([] : List (Str × Fn))⟩
def T_is_place_of : Tx := ⟨["cups", "switches", "thing"], [(("SWITCH_boards" : Str), .str [115, 119, 105, 116, 99, 104]), (("CUP_boards" : Str), .str [99, 117, 112])], fun x F => (x, F) ∈ ([("is_tuple_of", fn_is_tuple_of), ("is_within", fn_is_within)] : List (String × Fn)), [("Going", ["going_board", "going_rows", "going_level"])], fun c m F => ((c, m), F) ∈ ([] : List ((Str × Str) × Fn)), fun c F => (c, F) ∈ ([] : List (Str × Fn))⟩
def T_is_board : Tx := ⟨["thing", "exits", "cups", "switches", "one"], [(("MOST_CUPS" : Str), .int 4), (("MOST_SWITCHES" : Str), .int 24), (("MOST_EXITS" : Str), .int 4)], fun x F => (x, F) ∈ ([("is_tuple_of", fn_is_tuple_of), ("is_within", fn_is_within), ("is_place_of", fn_is_place_of)] : List (String × Fn)), [("Going", ["going_board", "going_rows", "going_level"])], fun c m F => ((c, m), F) ∈ ([] : List ((Str × Str) × Fn)), fun c F => (c, F) ∈ ([] : List (Str × Fn))⟩
def T_check_board : Tx := ⟨["board"], [], fun x F => (x, F) ∈ ([("is_board", fn_is_board)] : List (String × Fn)), [("Going", ["going_board", "going_rows", "going_level"])], fun c m F => ((c, m), F) ∈ ([] : List ((Str × Str) × Fn)), fun c F => (c, F) ∈ ([] : List (Str × Fn))⟩
def T_raw_is_hands : Tx := ⟨["board", "thing", "hand", "exits"], [], fun x F => (x, F) ∈ ([("is_tuple_of", fn_is_tuple_of), ("is_within", fn_is_within)] : List (String × Fn)), [("Going", ["going_board", "going_rows", "going_level"])], fun c m F => ((c, m), F) ∈ ([] : List ((Str × Str) × Fn)), fun c F => (c, F) ∈ ([] : List (Str × Fn))⟩
def T_check_hands : Tx := ⟨["board", "hands"], [], fun x F => (x, F) ∈ ([("check_board", fn_check_board), ("raw_is_hands", fn_raw_is_hands)] : List (String × Fn)), [("Going", ["going_board", "going_rows", "going_level"])], fun c m F => ((c, m), F) ∈ ([] : List ((Str × Str) × Fn)), fun c F => (c, F) ∈ ([] : List (Str × Fn))⟩
def T_is_switch : Tx := ⟨["board", "thing"], [], fun x F => (x, F) ∈ ([] : List (String × Fn)), [("Going", ["going_board", "going_rows", "going_level"])], fun c m F => ((c, m), F) ∈ ([] : List ((Str × Str) × Fn)), fun c F => (c, F) ∈ ([] : List (Str × Fn))⟩
def T_check_switch : Tx := ⟨["board", "s"], [], fun x F => (x, F) ∈ ([("is_switch", fn_is_switch)] : List (String × Fn)), [("Going", ["going_board", "going_rows", "going_level"])], fun c m F => ((c, m), F) ∈ ([] : List ((Str × Str) × Fn)), fun c F => (c, F) ∈ ([] : List (Str × Fn))⟩
def T_raw_is_place : Tx := ⟨["board", "thing"], [], fun x F => (x, F) ∈ ([("is_place_of", fn_is_place_of)] : List (String × Fn)), [("Going", ["going_board", "going_rows", "going_level"])], fun c m F => ((c, m), F) ∈ ([] : List ((Str × Str) × Fn)), fun c F => (c, F) ∈ ([] : List (Str × Fn))⟩
def T_raw_lost : Tx := ⟨["board", "good", "grows", "more", "s", "exits", "word", "number"], [(("CUP_boards" : Str), .str [99, 117, 112])], fun x F => (x, F) ∈ ([] : List (String × Fn)), [("Going", ["going_board", "going_rows", "going_level"])], fun c m F => ((c, m), F) ∈ ([] : List ((Str × Str) × Fn)), fun c F => (c, F) ∈ ([] : List (Str × Fn))⟩
def T_raw_all_rests : Tx := ⟨["board", "cup", "s"], [(("CUP_wishes" : Str), .str [99, 117, 112]), (("SWITCH_wishes" : Str), .str [115, 119, 105, 116, 99, 104])], fun x F => (x, F) ∈ ([("raw_lost", fn_raw_lost)] : List (String × Fn)), [("Going", ["going_board", "going_rows", "going_level"])], fun c m F => ((c, m), F) ∈ ([] : List ((Str × Str) × Fn)), fun c F => (c, F) ∈ ([] : List (Str × Fn))⟩
def T_check_rest : Tx := ⟨["board", "place"], [], fun x F => (x, F) ∈ ([("raw_is_place", fn_raw_is_place), ("raw_all_rests", fn_raw_all_rests)] : List (String × Fn)), [("Going", ["going_board", "going_rows", "going_level"])], fun c m F => ((c, m), F) ∈ ([] : List ((Str × Str) × Fn)), fun c F => (c, F) ∈ ([] : List (Str × Fn))⟩
def T_raw_rests : Tx := ⟨["gone", "place"], [(("CUP_boards" : Str), .str [99, 117, 112])], fun x F => (x, F) ∈ ([] : List (String × Fn)), [("Going", ["going_board", "going_rows", "going_level"])], fun c m F => ((c, m), F) ∈ ([] : List ((Str × Str) × Fn)), fun c F => (c, F) ∈ ([] : List (Str × Fn))⟩
def T_raw_run : Tx := ⟨["board", "hands", "place", "most", "gone", "here", "moves", "s", "exits"], [], fun x F => (x, F) ∈ ([("raw_lost", fn_raw_lost), ("raw_rests", fn_raw_rests)] : List (String × Fn)), [("Going", ["going_board", "going_rows", "going_level"])], fun c m F => ((c, m), F) ∈ ([] : List ((Str × Str) × Fn)), fun c F => (c, F) ∈ ([] : List (Str × Fn))⟩
def T_raw_comes : Tx := ⟨["board", "hands", "s", "place", "behind", "moves", "is_rest"], [(("SWITCH_wishes" : Str), .str [115, 119, 105, 116, 99, 104]), (("MOST_MOVES_wishes" : Str), .int 200000)], fun x F => (x, F) ∈ ([("raw_run", fn_raw_run)] : List (String × Fn)), [("Going", ["going_board", "going_rows", "going_level"])], fun c m F => ((c, m), F) ∈ ([] : List ((Str × Str) × Fn)), fun c F => (c, F) ∈ ([] : List (Str × Fn))⟩
def T_first_drop : Tx := ⟨["board", "hands", "s", "place", "known", "number", "rest"], [(("MOST_DROPS_wishes" : Str), .int 20000)], fun x F => (x, F) ∈ ([("check_board", fn_check_board), ("check_hands", fn_check_hands), ("check_switch", fn_check_switch), ("check_rest", fn_check_rest), ("raw_comes", fn_raw_comes)] : List (String × Fn)), [("Going", ["going_board", "going_rows", "going_level"])], fun c m F => ((c, m), F) ∈ ([] : List ((Str × Str) × Fn)), fun c F => (c, F) ∈ ([] : List (Str × Fn))⟩
def T__law_first : Tx := ⟨["board", "hands", "s", "place", "met", "many", "end"], [], fun x F => (x, F) ∈ ([("_law_drop", fn__law_drop)] : List (String × Fn)), [("Going", ["going_board", "going_rows", "going_level"])], fun c m F => ((c, m), F) ∈ ([] : List ((Str × Str) × Fn)), fun c F => (c, F) ∈ ([] : List (Str × Fn))⟩
def T_Going_is_over : Tx := ⟨["self"], [], fun x F => (x, F) ∈ ([] : List (String × Fn)), [("Going", ["going_board", "going_rows", "going_level"])], fun c m F => ((c, m), F) ∈ ([] : List ((Str × Str) × Fn)), fun c F => (c, F) ∈ ([] : List (Str × Fn))⟩
def T_Going_next_level : Tx := ⟨["self", "hands", "found", "later", "s", "rest", "behind"], [(("MOST_HANDS" : Str), .int 5000)], fun x F => (x, F) ∈ ([("raw_comes", fn_raw_comes)] : List (String × Fn)), [("Going", ["going_board", "going_rows", "going_level"])], fun c m F => ((c, m), F) ∈ ([] : List ((Str × Str) × Fn)), fun c F => (c, F) ∈ ([] : List (Str × Fn))⟩
def T_Going___init__ : Tx := ⟨["self", "board", "hands"], [], fun x F => (x, F) ∈ ([] : List (String × Fn)), [("Going", ["going_board", "going_rows", "going_level"])], fun c m F => ((c, m), F) ∈ ([] : List ((Str × Str) × Fn)), fun c F => (c, F) ∈ ([] : List (Str × Fn))⟩
def T_shortest_row : Tx := ⟨["board", "hands", "place", "going", "here", "s", "rest"], [], fun x F => (x, F) ∈ ([("check_board", fn_check_board), ("check_hands", fn_check_hands), ("check_rest", fn_check_rest)] : List (String × Fn)), [("Going", ["going_board", "going_rows", "going_level"])], fun c m F => ((c, m), F) ∈ ([(("Going", "is_over"), fn_Going_is_over), (("Going", "next_level"), fn_Going_next_level)] : List ((Str × Str) × Fn)), fun c F => (c, F) ∈ ([("Going", fn_Going___init__)] : List (Str × Fn))⟩
def T_are_few_places : Tx := ⟨["board", "thing", "one"], [(("MOST_DROPS_running" : Str), .int 60)], fun x F => (x, F) ∈ ([("raw_is_place", fn_raw_is_place)] : List (String × Fn)), [("Going", ["going_board", "going_rows", "going_level"])], fun c m F => ((c, m), F) ∈ ([] : List ((Str × Str) × Fn)), fun c F => (c, F) ∈ ([] : List (Str × Fn))⟩
def T_raw_whole : Tx := ⟨["board", "hands", "place", "found", "here", "moves", "is_over"], [(("MOST_MOVES_running" : Str), .int 200000)], fun x F => (x, F) ∈ ([("raw_run", fn_raw_run)] : List (String × Fn)), [("Going", ["going_board", "going_rows", "going_level"])], fun c m F => ((c, m), F) ∈ ([] : List ((Str × Str) × Fn)), fun c F => (c, F) ∈ ([] : List (Str × Fn))⟩
def T_raw_drops : Tx := ⟨["board", "hands", "places", "found", "place", "rest", "moves"], [], fun x F => (x, F) ∈ ([("raw_whole", fn_raw_whole)] : List (String × Fn)), [("Going", ["going_board", "going_rows", "going_level"])], fun c m F => ((c, m), F) ∈ ([] : List ((Str × Str) × Fn)), fun c F => (c, F) ∈ ([] : List (Str × Fn))⟩
def T_drops : Tx := ⟨["board", "hands", "places", "found", "here"], [], fun x F => (x, F) ∈ ([("check_hands", fn_check_hands), ("are_few_places", fn_are_few_places), ("raw_drops", fn_raw_drops)] : List (String × Fn)), [("Going", ["going_board", "going_rows", "going_level"])], fun c m F => ((c, m), F) ∈ ([] : List ((Str × Str) × Fn)), fun c F => (c, F) ∈ ([] : List (Str × Fn))⟩
def T_hands_led_to : Tx := ⟨["board", "hands", "going"], [], fun x F => (x, F) ∈ ([("check_board", fn_check_board), ("check_hands", fn_check_hands)] : List (String × Fn)), [("Going", ["going_board", "going_rows", "going_level"])], fun c m F => ((c, m), F) ∈ ([(("Going", "is_over"), fn_Going_is_over), (("Going", "next_level"), fn_Going_next_level)] : List ((Str × Str) × Fn)), fun c F => (c, F) ∈ ([("Going", fn_Going___init__)] : List (Str × Fn))⟩
def T__law_any : Tx := ⟨["hand", "some"], [], fun x F => (x, F) ∈ ([("_law_draw", fn__law_draw)] : List (String × Fn)), [("Going", ["going_board", "going_rows", "going_level"])], fun c m F => ((c, m), F) ∈ ([] : List ((Str × Str) × Fn)), fun c F => (c, F) ∈ ([] : List (Str × Fn))⟩
def T_row_to : Tx := ⟨["board", "hands", "other", "going"], [], fun x F => (x, F) ∈ ([("check_board", fn_check_board), ("check_hands", fn_check_hands)] : List (String × Fn)), [("Going", ["going_board", "going_rows", "going_level"])], fun c m F => ((c, m), F) ∈ ([(("Going", "is_over"), fn_Going_is_over), (("Going", "next_level"), fn_Going_next_level)] : List ((Str × Str) × Fn)), fun c F => (c, F) ∈ ([("Going", fn_Going___init__)] : List (Str × Fn))⟩
def T_law : Tx := ⟨["script", "hand", "turn", "board", "place", "other", "hands", "s", "order", "rows", "ends", "told", "one"], [], fun x F => (x, F) ∈ ([("_law_hand", fn__law_hand), ("_law_board", fn__law_board), ("_law_hands", fn__law_hands), ("_law_draw", fn__law_draw), ("_law_going", fn__law_going), ("_law_rests", fn__law_rests), ("first_drop", fn_first_drop), ("_law_first", fn__law_first), ("shortest_row", fn_shortest_row), ("drops", fn_drops), ("hands_led_to", fn_hands_led_to), ("_law_any", fn__law_any), ("row_to", fn_row_to)] : List (String × Fn)), [("Going", ["going_board", "going_rows", "going_level"])], fun c m F => ((c, m), F) ∈ ([] : List ((Str × Str) × Fn)), fun c F => (c, F) ∈ ([] : List (Str × Fn))⟩
def topS (i : Nat) : Stmt := PySem.Challenge.pw_arrivalboards_k83_whole_rows_of_drops_th.main.body.getD i (.Pass ⟨0, 0, 0, 0⟩)
theorem chk__law_hand : chkF T__law_hand fn__law_hand ["script"] (topS 52) = true := by decide +kernel
theorem cl__law_hand : CallsB T__law_hand fn__law_hand.body := by
  simp only [fn__law_hand, b__law_hand_2, b__law_hand_1, T__law_hand, Fn.body, CallsB, CallsS, CallsE, CallsO, CallsA, CallsI, List.mem_cons, true_or, or_true, and_self, and_true, true_and]
theorem bd__law_hand : BindA "_law_hand" (topS 52) ["script"] := fun _ _ _ _ _ _ us hl => match us, hl with | [_], _ => rfl
theorem chk__law_draw : chkF T__law_draw fn__law_draw ["hand", "many"] (topS 53) = true := by decide +kernel
theorem cl__law_draw : CallsB T__law_draw fn__law_draw.body := by
  simp only [fn__law_draw, b__law_draw_6, b__law_draw_5, b__law_draw_4, b__law_draw_3, b__law_draw_2, b__law_draw_10, b__law_draw_9, b__law_draw_8, b__law_draw_15, b__law_draw_14, b__law_draw_13, b__law_draw_12, b__law_draw_11, b__law_draw_7, b__law_draw_1, T__law_draw, Fn.body, CallsB, CallsS, CallsE, CallsO, CallsA, CallsI, List.mem_cons, true_or, or_true, and_self, and_true, true_and]
theorem bd__law_draw : BindA "_law_draw" (topS 53) ["hand", "many"] := fun _ _ _ _ _ _ us hl => match us, hl with | [_, _], _ => rfl
theorem chk__law_place : chkF T__law_place fn__law_place ["hand", "cups", "many"] (topS 55) = true := by decide +kernel
theorem cl__law_place : CallsB T__law_place fn__law_place.body := by
  simp only [fn__law_place, b__law_place_1, T__law_place, Fn.body, CallsB, CallsS, CallsE, CallsO, CallsA, CallsI, List.mem_cons, true_or, or_true, and_self, and_true, true_and]
theorem bd__law_place : BindA "_law_place" (topS 55) ["hand", "cups", "many"] := fun _ _ _ _ _ _ us hl => match us, hl with | [_, _, _], _ => rfl
theorem chk__law_board : chkF T__law_board fn__law_board ["hand", "most"] (topS 56) = true := by decide +kernel
theorem cl__law_board : CallsB T__law_board fn__law_board.body := by
  simp only [fn__law_board, b__law_board_4, b__law_board_5, b__law_board_3, b__law_board_2, b__law_board_1, T__law_board, Fn.body, CallsB, CallsS, CallsE, CallsO, CallsA, CallsI, List.mem_cons, true_or, or_true, and_self, and_true, true_and]
theorem bd__law_board : BindA "_law_board" (topS 56) ["hand", "most"] := fun _ _ _ _ _ _ us hl => match us, hl with | [_, _], _ => rfl
theorem chk__law_hands : chkF T__law_hands fn__law_hands ["hand", "board"] (topS 58) = true := by decide +kernel
theorem cl__law_hands : CallsB T__law_hands fn__law_hands.body := by
  simp only [fn__law_hands, b__law_hands_1, T__law_hands, Fn.body, CallsB, CallsS, CallsE, CallsO, CallsA, CallsI, List.mem_cons, true_or, or_true, and_self, and_true, true_and]
theorem bd__law_hands : BindA "_law_hands" (topS 58) ["hand", "board"] := fun _ _ _ _ _ _ us hl => match us, hl with | [_, _], _ => rfl
theorem chk__law_lost : chkF T__law_lost fn__law_lost ["board"] (topS 57) = true := by decide +kernel
theorem cl__law_lost : CallsB T__law_lost fn__law_lost.body := by
  simp only [fn__law_lost, b__law_lost_5, b__law_lost_4, b__law_lost_3, b__law_lost_6, b__law_lost_2, b__law_lost_1, T__law_lost, Fn.body, CallsB, CallsS, CallsE, CallsO, CallsA, CallsI, List.mem_cons, true_or, or_true, and_self, and_true, true_and]
theorem bd__law_lost : BindA "_law_lost" (topS 57) ["board"] := fun _ _ _ _ _ _ us hl => match us, hl with | [_], _ => rfl
theorem chk__law_way : chkF T__law_way fn__law_way ["board", "hands", "place"] (topS 59) = true := by decide +kernel
theorem cl__law_way : CallsB T__law_way fn__law_way.body := by
  simp only [fn__law_way, b__law_way_6, b__law_way_5, b__law_way_4, b__law_way_3, b__law_way_7, b__law_way_2, b__law_way_1, T__law_way, Fn.body, CallsB, CallsS, CallsE, CallsO, CallsA, CallsI, List.mem_cons, true_or, or_true, and_self, and_true, true_and]
theorem bd__law_way : BindA "_law_way" (topS 59) ["board", "hands", "place"] := fun _ _ _ _ _ _ us hl => match us, hl with | [_, _, _], _ => rfl
theorem chk__law_drop : chkF T__law_drop fn__law_drop ["board", "hands", "s"] (topS 60) = true := by decide +kernel
theorem cl__law_drop : CallsB T__law_drop fn__law_drop.body := by
  simp only [fn__law_drop, b__law_drop_1, T__law_drop, Fn.body, CallsB, CallsS, CallsE, CallsO, CallsA, CallsI, List.mem_cons, true_or, or_true, and_self, and_true, true_and]
theorem bd__law_drop : BindA "_law_drop" (topS 60) ["board", "hands", "s"] := fun _ _ _ _ _ _ us hl => match us, hl with | [_, _, _], _ => rfl
theorem chk__law_going : chkF T__law_going fn__law_going ["board", "hands"] (topS 63) = true := by decide +kernel
theorem cl__law_going : CallsB T__law_going fn__law_going.body := by
  simp only [fn__law_going, b__law_going_7, b__law_going_10, b__law_going_9, b__law_going_8, b__law_going_6, b__law_going_5, b__law_going_11, b__law_going_4, b__law_going_3, b__law_going_12, b__law_going_2, b__law_going_1, T__law_going, Fn.body, CallsB, CallsS, CallsE, CallsO, CallsA, CallsI, List.mem_cons, true_or, or_true, and_self, and_true, true_and]
theorem bd__law_going : BindA "_law_going" (topS 63) ["board", "hands"] := fun _ _ _ _ _ _ us hl => match us, hl with | [_, _], _ => rfl
theorem chk__law_rests : chkF T__law_rests fn__law_rests ["board"] (topS 61) = true := by decide +kernel
theorem cl__law_rests : CallsB T__law_rests fn__law_rests.body := by
  simp only [fn__law_rests, b__law_rests_1, T__law_rests, Fn.body, CallsB, CallsS, CallsE, CallsO, CallsA, CallsI, List.mem_cons, true_or, or_true, and_self, and_true, true_and]
theorem bd__law_rests : BindA "_law_rests" (topS 61) ["board"] := fun _ _ _ _ _ _ us hl => match us, hl with | [_], _ => rfl
theorem chk_is_tuple_of : chkF T_is_tuple_of fn_is_tuple_of ["thing", "size"] (topS 16) = true := by decide +kernel
theorem cl_is_tuple_of : CallsB T_is_tuple_of fn_is_tuple_of.body := by
  simp only [fn_is_tuple_of, b_is_tuple_of_1, T_is_tuple_of, Fn.body, CallsB, CallsS, CallsE, CallsO, CallsA, CallsI, List.mem_cons, true_or, or_true, and_self, and_true, true_and]
theorem bd_is_tuple_of : BindA "is_tuple_of" (topS 16) ["thing", "size"] := fun _ _ _ _ _ _ us hl => match us, hl with | [_, _], _ => rfl
theorem chk_is_integer : chkF T_is_integer fn_is_integer ["thing"] (topS 14) = true := by decide +kernel
theorem cl_is_integer : CallsB T_is_integer fn_is_integer.body := by
  simp only [fn_is_integer, b_is_integer_1, T_is_integer, Fn.body, CallsB, CallsS, CallsE, CallsO, CallsA, CallsI, List.mem_cons, true_or, or_true, and_self, and_true, true_and]
theorem bd_is_integer : BindA "is_integer" (topS 14) ["thing"] := fun _ _ _ _ _ _ us hl => match us, hl with | [_], _ => rfl
theorem chk_is_within : chkF T_is_within fn_is_within ["thing", "low", "high"] (topS 15) = true := by decide +kernel
theorem cl_is_within : CallsB T_is_within fn_is_within.body := by
  simp only [fn_is_within, b_is_within_1, T_is_within, Fn.body, CallsB, CallsS, CallsE, CallsO, CallsA, CallsI, List.mem_cons, true_or, or_true, and_self, and_true, true_and]
theorem bd_is_within : BindA "is_within" (topS 15) ["thing", "low", "high"] := fun _ _ _ _ _ _ us hl => match us, hl with | [_, _, _], _ => rfl
theorem chk_is_place_of : chkF T_is_place_of fn_is_place_of ["cups", "switches", "thing"] (topS 17) = true := by decide +kernel
theorem cl_is_place_of : CallsB T_is_place_of fn_is_place_of.body := by
  simp only [fn_is_place_of, b_is_place_of_2, b_is_place_of_4, b_is_place_of_5, b_is_place_of_3, b_is_place_of_1, T_is_place_of, Fn.body, CallsB, CallsS, CallsE, CallsO, CallsA, CallsI, List.mem_cons, true_or, or_true, and_self, and_true, true_and]
theorem bd_is_place_of : BindA "is_place_of" (topS 17) ["cups", "switches", "thing"] := fun _ _ _ _ _ _ us hl => match us, hl with | [_, _, _], _ => rfl
theorem chk_is_board : chkF T_is_board fn_is_board ["thing"] (topS 18) = true := by decide +kernel
theorem cl_is_board : CallsB T_is_board fn_is_board.body := by
  simp only [fn_is_board, b_is_board_2, b_is_board_5, b_is_board_8, b_is_board_10, b_is_board_9, b_is_board_7, b_is_board_11, b_is_board_6, b_is_board_4, b_is_board_3, b_is_board_1, T_is_board, Fn.body, CallsB, CallsS, CallsE, CallsO, CallsA, CallsI, List.mem_cons, true_or, or_true, and_self, and_true, true_and]
theorem bd_is_board : BindA "is_board" (topS 18) ["thing"] := fun _ _ _ _ _ _ us hl => match us, hl with | [_], _ => rfl
theorem chk_check_board : chkF T_check_board fn_check_board ["board"] (topS 19) = true := by decide +kernel
theorem cl_check_board : CallsB T_check_board fn_check_board.body := by
  simp only [fn_check_board, b_check_board_2, b_check_board_1, T_check_board, Fn.body, CallsB, CallsS, CallsE, CallsO, CallsA, CallsI, List.mem_cons, true_or, or_true, and_self, and_true, true_and]
theorem bd_check_board : BindA "check_board" (topS 19) ["board"] := fun _ _ _ _ _ _ us hl => match us, hl with | [_], _ => rfl
theorem chk_raw_is_hands : chkF T_raw_is_hands fn_raw_is_hands ["board", "thing"] (topS 24) = true := by decide +kernel
theorem cl_raw_is_hands : CallsB T_raw_is_hands fn_raw_is_hands.body := by
  simp only [fn_raw_is_hands, b_raw_is_hands_2, b_raw_is_hands_3, b_raw_is_hands_1, T_raw_is_hands, Fn.body, CallsB, CallsS, CallsE, CallsO, CallsA, CallsI, List.mem_cons, true_or, or_true, and_self, and_true, true_and]
theorem bd_raw_is_hands : BindA "raw_is_hands" (topS 24) ["board", "thing"] := fun _ _ _ _ _ _ us hl => match us, hl with | [_, _], _ => rfl
theorem chk_check_hands : chkF T_check_hands fn_check_hands ["board", "hands"] (topS 25) = true := by decide +kernel
theorem cl_check_hands : CallsB T_check_hands fn_check_hands.body := by
  simp only [fn_check_hands, b_check_hands_3, b_check_hands_2, b_check_hands_1, T_check_hands, Fn.body, CallsB, CallsS, CallsE, CallsO, CallsA, CallsI, List.mem_cons, true_or, or_true, and_self, and_true, true_and]
theorem bd_check_hands : BindA "check_hands" (topS 25) ["board", "hands"] := fun _ _ _ _ _ _ us hl => match us, hl with | [_, _], _ => rfl
theorem chk_is_switch : chkF T_is_switch fn_is_switch ["board", "thing"] (topS 35) = true := by decide +kernel
theorem cl_is_switch : CallsB T_is_switch fn_is_switch.body := by
  simp only [fn_is_switch, b_is_switch_1, T_is_switch, Fn.body, CallsB, CallsS, CallsE, CallsO, CallsA, CallsI, List.mem_cons, true_or, or_true, and_self, and_true, true_and]
theorem bd_is_switch : BindA "is_switch" (topS 35) ["board", "thing"] := fun _ _ _ _ _ _ us hl => match us, hl with | [_, _], _ => rfl
theorem chk_check_switch : chkF T_check_switch fn_check_switch ["board", "s"] (topS 36) = true := by decide +kernel
theorem cl_check_switch : CallsB T_check_switch fn_check_switch.body := by
  simp only [fn_check_switch, b_check_switch_2, b_check_switch_1, T_check_switch, Fn.body, CallsB, CallsS, CallsE, CallsO, CallsA, CallsI, List.mem_cons, true_or, or_true, and_self, and_true, true_and]
theorem bd_check_switch : BindA "check_switch" (topS 36) ["board", "s"] := fun _ _ _ _ _ _ us hl => match us, hl with | [_, _], _ => rfl
theorem chk_raw_is_place : chkF T_raw_is_place fn_raw_is_place ["board", "thing"] (topS 20) = true := by decide +kernel
theorem cl_raw_is_place : CallsB T_raw_is_place fn_raw_is_place.body := by
  simp only [fn_raw_is_place, b_raw_is_place_1, T_raw_is_place, Fn.body, CallsB, CallsS, CallsE, CallsO, CallsA, CallsI, List.mem_cons, true_or, or_true, and_self, and_true, true_and]
theorem bd_raw_is_place : BindA "raw_is_place" (topS 20) ["board", "thing"] := fun _ _ _ _ _ _ us hl => match us, hl with | [_, _], _ => rfl
theorem chk_raw_lost : chkF T_raw_lost fn_raw_lost ["board"] (topS 21) = true := by decide +kernel
theorem cl_raw_lost : CallsB T_raw_lost fn_raw_lost.body := by
  simp only [fn_raw_lost, b_raw_lost_6, b_raw_lost_5, b_raw_lost_8, b_raw_lost_7, b_raw_lost_4, b_raw_lost_3, b_raw_lost_9, b_raw_lost_2, b_raw_lost_1, T_raw_lost, Fn.body, CallsB, CallsS, CallsE, CallsO, CallsA, CallsI, List.mem_cons, true_or, or_true, and_self, and_true, true_and]
theorem bd_raw_lost : BindA "raw_lost" (topS 21) ["board"] := fun _ _ _ _ _ _ us hl => match us, hl with | [_], _ => rfl
theorem chk_raw_all_rests : chkF T_raw_all_rests fn_raw_all_rests ["board"] (topS 43) = true := by decide +kernel
theorem cl_raw_all_rests : CallsB T_raw_all_rests fn_raw_all_rests.body := by
  simp only [fn_raw_all_rests, b_raw_all_rests_1, T_raw_all_rests, Fn.body, CallsB, CallsS, CallsE, CallsO, CallsA, CallsI, List.mem_cons, true_or, or_true, and_self, and_true, true_and]
theorem bd_raw_all_rests : BindA "raw_all_rests" (topS 43) ["board"] := fun _ _ _ _ _ _ us hl => match us, hl with | [_], _ => rfl
theorem chk_check_rest : chkF T_check_rest fn_check_rest ["board", "place"] (topS 44) = true := by decide +kernel
theorem cl_check_rest : CallsB T_check_rest fn_check_rest.body := by
  simp only [fn_check_rest, b_check_rest_2, b_check_rest_1, T_check_rest, Fn.body, CallsB, CallsS, CallsE, CallsO, CallsA, CallsI, List.mem_cons, true_or, or_true, and_self, and_true, true_and]
theorem bd_check_rest : BindA "check_rest" (topS 44) ["board", "place"] := fun _ _ _ _ _ _ us hl => match us, hl with | [_, _], _ => rfl
theorem chk_raw_rests : chkF T_raw_rests fn_raw_rests ["gone", "place"] (topS 22) = true := by decide +kernel
theorem cl_raw_rests : CallsB T_raw_rests fn_raw_rests.body := by
  simp only [fn_raw_rests, b_raw_rests_1, T_raw_rests, Fn.body, CallsB, CallsS, CallsE, CallsO, CallsA, CallsI, List.mem_cons, true_or, or_true, and_self, and_true, true_and]
theorem bd_raw_rests : BindA "raw_rests" (topS 22) ["gone", "place"] := fun _ _ _ _ _ _ us hl => match us, hl with | [_, _], _ => rfl
theorem chk_raw_run : chkF T_raw_run fn_raw_run ["board", "hands", "place", "most"] (topS 29) = true := by decide +kernel
theorem cl_raw_run : CallsB T_raw_run fn_raw_run.body := by
  simp only [fn_raw_run, b_raw_run_7, b_raw_run_6, b_raw_run_5, b_raw_run_4, b_raw_run_3, b_raw_run_8, b_raw_run_2, b_raw_run_1, T_raw_run, Fn.body, CallsB, CallsS, CallsE, CallsO, CallsA, CallsI, List.mem_cons, true_or, or_true, and_self, and_true, true_and]
theorem bd_raw_run : BindA "raw_run" (topS 29) ["board", "hands", "place", "most"] := fun _ _ _ _ _ _ us hl => match us, hl with | [_, _, _, _], _ => rfl
theorem chk_raw_comes : chkF T_raw_comes fn_raw_comes ["board", "hands", "s"] (topS 45) = true := by decide +kernel
theorem cl_raw_comes : CallsB T_raw_comes fn_raw_comes.body := by
  simp only [fn_raw_comes, b_raw_comes_3, b_raw_comes_4, b_raw_comes_2, b_raw_comes_1, T_raw_comes, Fn.body, CallsB, CallsS, CallsE, CallsO, CallsA, CallsI, List.mem_cons, true_or, or_true, and_self, and_true, true_and]
theorem bd_raw_comes : BindA "raw_comes" (topS 45) ["board", "hands", "s"] := fun _ _ _ _ _ _ us hl => match us, hl with | [_, _, _], _ => rfl
theorem chk_first_drop : chkF T_first_drop fn_first_drop ["board", "hands", "s", "place"] (topS 46) = true := by decide +kernel
theorem cl_first_drop : CallsB T_first_drop fn_first_drop.body := by
  simp only [fn_first_drop, b_first_drop_8, b_first_drop_13, b_first_drop_12, b_first_drop_11, b_first_drop_10, b_first_drop_9, b_first_drop_7, b_first_drop_14, b_first_drop_6, b_first_drop_5, b_first_drop_4, b_first_drop_3, b_first_drop_2, b_first_drop_1, T_first_drop, Fn.body, CallsB, CallsS, CallsE, CallsO, CallsA, CallsI, List.mem_cons, true_or, or_true, and_self, and_true, true_and]
theorem bd_first_drop : BindA "first_drop" (topS 46) ["board", "hands", "s", "place"] := fun _ _ _ _ _ _ us hl => match us, hl with | [_, _, _, _], _ => rfl
theorem chk__law_first : chkF T__law_first fn__law_first ["board", "hands", "s", "place"] (topS 62) = true := by decide +kernel
theorem cl__law_first : CallsB T__law_first fn__law_first.body := by
  simp only [fn__law_first, b__law_first_7, b__law_first_6, b__law_first_5, b__law_first_4, b__law_first_3, b__law_first_8, b__law_first_2, b__law_first_1, T__law_first, Fn.body, CallsB, CallsS, CallsE, CallsO, CallsA, CallsI, List.mem_cons, true_or, or_true, and_self, and_true, true_and]
theorem bd__law_first : BindA "_law_first" (topS 62) ["board", "hands", "s", "place"] := fun _ _ _ _ _ _ us hl => match us, hl with | [_, _, _, _], _ => rfl
theorem chk_Going_is_over : chkF T_Going_is_over fn_Going_is_over ["self"] (inClass (topS 47) 2) = true := by decide +kernel
theorem cl_Going_is_over : CallsB T_Going_is_over fn_Going_is_over.body := by
  simp only [fn_Going_is_over, b_Going_is_over_1, T_Going_is_over, Fn.body, CallsB, CallsS, CallsE, CallsO, CallsA, CallsI, List.mem_cons, true_or, or_true, and_self, and_true, true_and]
theorem bd_Going_is_over : BindM "is_over" "Going.is_over" (inClass (topS 47) 2) ["self"] := fun _ _ _ _ _ _ us hl => match us, hl with | [_], _ => rfl
theorem chk_Going_next_level : chkF T_Going_next_level fn_Going_next_level ["self"] (inClass (topS 47) 1) = true := by decide +kernel
theorem cl_Going_next_level : CallsB T_Going_next_level fn_Going_next_level.body := by
  simp only [fn_Going_next_level, b_Going_next_level_8, b_Going_next_level_10, b_Going_next_level_9, b_Going_next_level_7, b_Going_next_level_6, b_Going_next_level_5, b_Going_next_level_4, b_Going_next_level_3, b_Going_next_level_12, b_Going_next_level_11, b_Going_next_level_2, b_Going_next_level_1, T_Going_next_level, Fn.body, CallsB, CallsS, CallsE, CallsO, CallsA, CallsI, List.mem_cons, true_or, or_true, and_self, and_true, true_and]
theorem bd_Going_next_level : BindM "next_level" "Going.next_level" (inClass (topS 47) 1) ["self"] := fun _ _ _ _ _ _ us hl => match us, hl with | [_], _ => rfl
theorem chk_Going___init__ : chkF T_Going___init__ fn_Going___init__ ["self", "board", "hands"] (inClass (topS 47) 0) = true := by decide +kernel
theorem cl_Going___init__ : CallsB T_Going___init__ fn_Going___init__.body := by
  simp only [fn_Going___init__, b_Going___init___3, b_Going___init___2, b_Going___init___1, T_Going___init__, Fn.body, CallsB, CallsS, CallsE, CallsO, CallsA, CallsI, List.mem_cons, true_or, or_true, and_self, and_true, true_and]
theorem bd_Going___init__ : BindM "__init__" "Going.__init__" (inClass (topS 47) 0) ["self", "board", "hands"] := fun _ _ _ _ _ _ us hl => match us, hl with | [_, _, _], _ => rfl
theorem chk_shortest_row : chkF T_shortest_row fn_shortest_row ["board", "hands", "place"] (topS 48) = true := by decide +kernel
theorem cl_shortest_row : CallsB T_shortest_row fn_shortest_row.body := by
  simp only [fn_shortest_row, b_shortest_row_8, b_shortest_row_7, b_shortest_row_6, b_shortest_row_9, b_shortest_row_5, b_shortest_row_4, b_shortest_row_3, b_shortest_row_2, b_shortest_row_1, T_shortest_row, Fn.body, CallsB, CallsS, CallsE, CallsO, CallsA, CallsI, List.mem_cons, true_or, or_true, and_self, and_true, true_and]
theorem bd_shortest_row : BindA "shortest_row" (topS 48) ["board", "hands", "place"] := fun _ _ _ _ _ _ us hl => match us, hl with | [_, _, _], _ => rfl
theorem chk_are_few_places : chkF T_are_few_places fn_are_few_places ["board", "thing"] (topS 32) = true := by decide +kernel
theorem cl_are_few_places : CallsB T_are_few_places fn_are_few_places.body := by
  simp only [fn_are_few_places, b_are_few_places_2, b_are_few_places_3, b_are_few_places_1, T_are_few_places, Fn.body, CallsB, CallsS, CallsE, CallsO, CallsA, CallsI, List.mem_cons, true_or, or_true, and_self, and_true, true_and]
theorem bd_are_few_places : BindA "are_few_places" (topS 32) ["board", "thing"] := fun _ _ _ _ _ _ us hl => match us, hl with | [_, _], _ => rfl
theorem chk_raw_whole : chkF T_raw_whole fn_raw_whole ["board", "hands", "place"] (topS 30) = true := by decide +kernel
theorem cl_raw_whole : CallsB T_raw_whole fn_raw_whole.body := by
  simp only [fn_raw_whole, b_raw_whole_3, b_raw_whole_4, b_raw_whole_2, b_raw_whole_1, T_raw_whole, Fn.body, CallsB, CallsS, CallsE, CallsO, CallsA, CallsI, List.mem_cons, true_or, or_true, and_self, and_true, true_and]
theorem bd_raw_whole : BindA "raw_whole" (topS 30) ["board", "hands", "place"] := fun _ _ _ _ _ _ us hl => match us, hl with | [_, _, _], _ => rfl
theorem chk_raw_drops : chkF T_raw_drops fn_raw_drops ["board", "hands", "places"] (topS 31) = true := by decide +kernel
theorem cl_raw_drops : CallsB T_raw_drops fn_raw_drops.body := by
  simp only [fn_raw_drops, b_raw_drops_4, b_raw_drops_3, b_raw_drops_5, b_raw_drops_2, b_raw_drops_1, T_raw_drops, Fn.body, CallsB, CallsS, CallsE, CallsO, CallsA, CallsI, List.mem_cons, true_or, or_true, and_self, and_true, true_and]
theorem bd_raw_drops : BindA "raw_drops" (topS 31) ["board", "hands", "places"] := fun _ _ _ _ _ _ us hl => match us, hl with | [_, _, _], _ => rfl
theorem chk_drops : chkF T_drops fn_drops ["board", "hands", "places"] (topS 33) = true := by decide +kernel
theorem cl_drops : CallsB T_drops fn_drops.body := by
  simp only [fn_drops, b_drops_3, b_drops_5, b_drops_4, b_drops_2, b_drops_1, T_drops, Fn.body, CallsB, CallsS, CallsE, CallsO, CallsA, CallsI, List.mem_cons, true_or, or_true, and_self, and_true, true_and]
theorem bd_drops : BindA "drops" (topS 33) ["board", "hands", "places"] := fun _ _ _ _ _ _ us hl => match us, hl with | [_, _, _], _ => rfl
theorem chk_hands_led_to : chkF T_hands_led_to fn_hands_led_to ["board", "hands"] (topS 50) = true := by decide +kernel
theorem cl_hands_led_to : CallsB T_hands_led_to fn_hands_led_to.body := by
  simp only [fn_hands_led_to, b_hands_led_to_5, b_hands_led_to_6, b_hands_led_to_4, b_hands_led_to_3, b_hands_led_to_2, b_hands_led_to_1, T_hands_led_to, Fn.body, CallsB, CallsS, CallsE, CallsO, CallsA, CallsI, List.mem_cons, true_or, or_true, and_self, and_true, true_and]
theorem bd_hands_led_to : BindA "hands_led_to" (topS 50) ["board", "hands"] := fun _ _ _ _ _ _ us hl => match us, hl with | [_, _], _ => rfl
theorem chk__law_any : chkF T__law_any fn__law_any ["hand", "some"] (topS 54) = true := by decide +kernel
theorem cl__law_any : CallsB T__law_any fn__law_any.body := by
  simp only [fn__law_any, b__law_any_1, T__law_any, Fn.body, CallsB, CallsS, CallsE, CallsO, CallsA, CallsI, List.mem_cons, true_or, or_true, and_self, and_true, true_and]
theorem bd__law_any : BindA "_law_any" (topS 54) ["hand", "some"] := fun _ _ _ _ _ _ us hl => match us, hl with | [_, _], _ => rfl
theorem chk_row_to : chkF T_row_to fn_row_to ["board", "hands", "other"] (topS 49) = true := by decide +kernel
theorem cl_row_to : CallsB T_row_to fn_row_to.body := by
  simp only [fn_row_to, b_row_to_6, b_row_to_7, b_row_to_5, b_row_to_4, b_row_to_3, b_row_to_2, b_row_to_1, T_row_to, Fn.body, CallsB, CallsS, CallsE, CallsO, CallsA, CallsI, List.mem_cons, true_or, or_true, and_self, and_true, true_and]
theorem bd_row_to : BindA "row_to" (topS 49) ["board", "hands", "other"] := fun _ _ _ _ _ _ us hl => match us, hl with | [_, _, _], _ => rfl
theorem chk_law : chkF T_law fn_law ["script"] (topS 64) = true := by decide +kernel
theorem cl_law : CallsB T_law fn_law.body := by
  simp only [fn_law, b_law_8, b_law_11, b_law_13, b_law_12, b_law_10, b_law_9, b_law_7, b_law_15, b_law_19, b_law_22, b_law_21, b_law_20, b_law_18, b_law_17, b_law_16, b_law_14, b_law_6, b_law_5, b_law_4, b_law_3, b_law_23, b_law_2, b_law_1, T_law, Fn.body, CallsB, CallsS, CallsE, CallsO, CallsA, CallsI, List.mem_cons, true_or, or_true, and_self, and_true, true_and]
theorem bd_law : BindA "law" (topS 64) ["script"] := fun _ _ _ _ _ _ us hl => match us, hl with | [_], _ => rfl
section
variable {P : Program} {w : World} {K : PySem.W.Frag} {mg : Str → Option Value} {base h : Heap}
theorem all_mk (X : K.In h) (G : h.Ns mainGlobals mg) {fa : Addr} (hfa : mg "law" = some (.ref fa)) (bi : ∀ x ∈ biNames, NoAt K x) (d__law_hand : DefAt K "_law_hand" (topS 52)) (d__law_draw : DefAt K "_law_draw" (topS 53)) (d__law_place : DefAt K "_law_place" (topS 55)) (d__law_board : DefAt K "_law_board" (topS 56)) (d__law_hands : DefAt K "_law_hands" (topS 58)) (d__law_lost : DefAt K "_law_lost" (topS 57)) (d__law_way : DefAt K "_law_way" (topS 59)) (d__law_drop : DefAt K "_law_drop" (topS 60)) (d__law_going : DefAt K "_law_going" (topS 63)) (d__law_rests : DefAt K "_law_rests" (topS 61)) (d_is_tuple_of : DefAt K "is_tuple_of" (topS 16)) (d_is_integer : DefAt K "is_integer" (topS 14)) (d_is_within : DefAt K "is_within" (topS 15)) (d_is_place_of : DefAt K "is_place_of" (topS 17)) (d_is_board : DefAt K "is_board" (topS 18)) (d_check_board : DefAt K "check_board" (topS 19)) (d_raw_is_hands : DefAt K "raw_is_hands" (topS 24)) (d_check_hands : DefAt K "check_hands" (topS 25)) (d_is_switch : DefAt K "is_switch" (topS 35)) (d_check_switch : DefAt K "check_switch" (topS 36)) (d_raw_is_place : DefAt K "raw_is_place" (topS 20)) (d_raw_lost : DefAt K "raw_lost" (topS 21)) (d_raw_all_rests : DefAt K "raw_all_rests" (topS 43)) (d_check_rest : DefAt K "check_rest" (topS 44)) (d_raw_rests : DefAt K "raw_rests" (topS 22)) (d_raw_run : DefAt K "raw_run" (topS 29)) (d_raw_comes : DefAt K "raw_comes" (topS 45)) (d_first_drop : DefAt K "first_drop" (topS 46)) (d__law_first : DefAt K "_law_first" (topS 62)) (d_Going_is_over : MethAt K "Going" "is_over" "Going.is_over" (inClass (topS 47) 2)) (d_Going_next_level : MethAt K "Going" "next_level" "Going.next_level" (inClass (topS 47) 1)) (d_Going___init__ : MethAt K "Going" "__init__" "Going.__init__" (inClass (topS 47) 0)) (d_shortest_row : DefAt K "shortest_row" (topS 48)) (d_are_few_places : DefAt K "are_few_places" (topS 32)) (d_raw_whole : DefAt K "raw_whole" (topS 30)) (d_raw_drops : DefAt K "raw_drops" (topS 31)) (d_drops : DefAt K "drops" (topS 33)) (d_hands_led_to : DefAt K "hands_led_to" (topS 50)) (d__law_any : DefAt K "_law_any" (topS 54)) (d_row_to : DefAt K "row_to" (topS 49)) (d_law : DefAt K "law" (topS 64)) (c_CUP_boards : ConAt K "CUP_boards" (.str [99, 117, 112])) (c_CUP_wishes : ConAt K "CUP_wishes" (.str [99, 117, 112])) (c_MOST_CUPS : ConAt K "MOST_CUPS" (.int 4)) (c_MOST_DROPS_running : ConAt K "MOST_DROPS_running" (.int 60)) (c_MOST_DROPS_wishes : ConAt K "MOST_DROPS_wishes" (.int 20000)) (c_MOST_EXITS : ConAt K "MOST_EXITS" (.int 4)) (c_MOST_HANDS : ConAt K "MOST_HANDS" (.int 5000)) (c_MOST_MOVES_running : ConAt K "MOST_MOVES_running" (.int 200000)) (c_MOST_MOVES_wishes : ConAt K "MOST_MOVES_wishes" (.int 200000)) (c_MOST_SWITCHES : ConAt K "MOST_SWITCHES" (.int 24)) (c_SWITCH_boards : ConAt K "SWITCH_boards" (.str [115, 119, 105, 116, 99, 104])) (c_SWITCH_wishes : ConAt K "SWITCH_wishes" (.str [115, 119, 105, 116, 99, 104])) (k_Going : ClsF K "Going" ["going_board", "going_rows", "going_level"]) :
    ∃ fd : FuncData, (∀ (s : Shared) (v : Value), BindsTo s fd ⟨[v], []⟩ [("script", v)]) ∧ ∀ base : Heap, K.In base → base.Ns mainGlobals mg → FnOk P w K mg base CX0 8 fa fd ["script"] (spF ⟨K, w⟩ fn_law) := by
  have all : ∀ base : Heap, K.In base → base.Ns mainGlobals mg → Mod P w K mg base T_law 7 := fun base X G => by
    have g__law_hand : GoodF P w K mg base 1 "_law_hand" fn__law_hand := d__law_hand.ok X G bd__law_hand (mod_mk (T := T__law_hand) (L := []) (LM := []) (LI := []) X G (fun p hp => by
      simp only [T__law_hand, List.mem_cons, List.not_mem_nil, or_false] at hp) bi (fun _ _ q => q) (fun p hp => absurd hp List.not_mem_nil) (fun p hp => by
      simp only [T__law_hand, List.mem_cons, List.not_mem_nil, or_false] at hp
      rcases hp with rfl
      · exact k_Going) (fun _ _ _ q => q) (fun p hp => absurd hp List.not_mem_nil) (fun _ _ q => q) (fun p hp => absurd hp List.not_mem_nil)) chk__law_hand cl__law_hand
    have g__law_draw : GoodF P w K mg base 1 "_law_draw" fn__law_draw := d__law_draw.ok X G bd__law_draw (mod_mk (T := T__law_draw) (L := []) (LM := []) (LI := []) X G (fun p hp => by
      simp only [T__law_draw, List.mem_cons, List.not_mem_nil, or_false] at hp) bi (fun _ _ q => q) (fun p hp => absurd hp List.not_mem_nil) (fun p hp => by
      simp only [T__law_draw, List.mem_cons, List.not_mem_nil, or_false] at hp
      rcases hp with rfl
      · exact k_Going) (fun _ _ _ q => q) (fun p hp => absurd hp List.not_mem_nil) (fun _ _ q => q) (fun p hp => absurd hp List.not_mem_nil)) chk__law_draw cl__law_draw
    have g__law_place : GoodF P w K mg base 2 "_law_place" fn__law_place := d__law_place.ok X G bd__law_place (mod_mk (T := T__law_place) (L := [("_law_draw", fn__law_draw)]) (LM := []) (LI := []) X G (fun p hp => by
      simp only [T__law_place, List.mem_cons, List.not_mem_nil, or_false] at hp) bi (fun _ _ q => q) (fun p hp => by
      simp only [List.mem_cons, List.not_mem_nil, or_false] at hp
      rcases hp with rfl
      · exact g__law_draw.mono (by decide)) (fun p hp => by
      simp only [T__law_place, List.mem_cons, List.not_mem_nil, or_false] at hp
      rcases hp with rfl
      · exact k_Going) (fun _ _ _ q => q) (fun p hp => absurd hp List.not_mem_nil) (fun _ _ q => q) (fun p hp => absurd hp List.not_mem_nil)) chk__law_place cl__law_place
    have g__law_board : GoodF P w K mg base 3 "_law_board" fn__law_board := d__law_board.ok X G bd__law_board (mod_mk (T := T__law_board) (L := [("_law_draw", fn__law_draw), ("_law_place", fn__law_place)]) (LM := []) (LI := []) X G (fun p hp => by
      simp only [T__law_board, List.mem_cons, List.not_mem_nil, or_false] at hp) bi (fun _ _ q => q) (fun p hp => by
      simp only [List.mem_cons, List.not_mem_nil, or_false] at hp
      rcases hp with rfl | rfl
      · exact g__law_draw.mono (by decide)
      · exact g__law_place.mono (by decide)) (fun p hp => by
      simp only [T__law_board, List.mem_cons, List.not_mem_nil, or_false] at hp
      rcases hp with rfl
      · exact k_Going) (fun _ _ _ q => q) (fun p hp => absurd hp List.not_mem_nil) (fun _ _ q => q) (fun p hp => absurd hp List.not_mem_nil)) chk__law_board cl__law_board
    have g__law_hands : GoodF P w K mg base 2 "_law_hands" fn__law_hands := d__law_hands.ok X G bd__law_hands (mod_mk (T := T__law_hands) (L := [("_law_draw", fn__law_draw)]) (LM := []) (LI := []) X G (fun p hp => by
      simp only [T__law_hands, List.mem_cons, List.not_mem_nil, or_false] at hp) bi (fun _ _ q => q) (fun p hp => by
      simp only [List.mem_cons, List.not_mem_nil, or_false] at hp
      rcases hp with rfl
      · exact g__law_draw.mono (by decide)) (fun p hp => by
      simp only [T__law_hands, List.mem_cons, List.not_mem_nil, or_false] at hp
      rcases hp with rfl
      · exact k_Going) (fun _ _ _ q => q) (fun p hp => absurd hp List.not_mem_nil) (fun _ _ q => q) (fun p hp => absurd hp List.not_mem_nil)) chk__law_hands cl__law_hands
    have g__law_lost : GoodF P w K mg base 1 "_law_lost" fn__law_lost := d__law_lost.ok X G bd__law_lost (mod_mk (T := T__law_lost) (L := []) (LM := []) (LI := []) X G (fun p hp => by
      simp only [T__law_lost, List.mem_cons, List.not_mem_nil, or_false] at hp) bi (fun _ _ q => q) (fun p hp => absurd hp List.not_mem_nil) (fun p hp => by
      simp only [T__law_lost, List.mem_cons, List.not_mem_nil, or_false] at hp
      rcases hp with rfl
      · exact k_Going) (fun _ _ _ q => q) (fun p hp => absurd hp List.not_mem_nil) (fun _ _ q => q) (fun p hp => absurd hp List.not_mem_nil)) chk__law_lost cl__law_lost
    have g__law_way : GoodF P w K mg base 2 "_law_way" fn__law_way := d__law_way.ok X G bd__law_way (mod_mk (T := T__law_way) (L := [("_law_lost", fn__law_lost)]) (LM := []) (LI := []) X G (fun p hp => by
      simp only [T__law_way, List.mem_cons, List.not_mem_nil, or_false] at hp) bi (fun _ _ q => q) (fun p hp => by
      simp only [List.mem_cons, List.not_mem_nil, or_false] at hp
      rcases hp with rfl
      · exact g__law_lost.mono (by decide)) (fun p hp => by
      simp only [T__law_way, List.mem_cons, List.not_mem_nil, or_false] at hp
      rcases hp with rfl
      · exact k_Going) (fun _ _ _ q => q) (fun p hp => absurd hp List.not_mem_nil) (fun _ _ q => q) (fun p hp => absurd hp List.not_mem_nil)) chk__law_way cl__law_way
    have g__law_drop : GoodF P w K mg base 3 "_law_drop" fn__law_drop := d__law_drop.ok X G bd__law_drop (mod_mk (T := T__law_drop) (L := [("_law_way", fn__law_way)]) (LM := []) (LI := []) X G (fun p hp => by
      simp only [T__law_drop, List.mem_cons, List.not_mem_nil, or_false] at hp) bi (fun _ _ q => q) (fun p hp => by
      simp only [List.mem_cons, List.not_mem_nil, or_false] at hp
      rcases hp with rfl
      · exact g__law_way.mono (by decide)) (fun p hp => by
      simp only [T__law_drop, List.mem_cons, List.not_mem_nil, or_false] at hp
      rcases hp with rfl
      · exact k_Going) (fun _ _ _ q => q) (fun p hp => absurd hp List.not_mem_nil) (fun _ _ q => q) (fun p hp => absurd hp List.not_mem_nil)) chk__law_drop cl__law_drop
    have g__law_going : GoodF P w K mg base 4 "_law_going" fn__law_going := d__law_going.ok X G bd__law_going (mod_mk (T := T__law_going) (L := [("_law_drop", fn__law_drop)]) (LM := []) (LI := []) X G (fun p hp => by
      simp only [T__law_going, List.mem_cons, List.not_mem_nil, or_false] at hp) bi (fun _ _ q => q) (fun p hp => by
      simp only [List.mem_cons, List.not_mem_nil, or_false] at hp
      rcases hp with rfl
      · exact g__law_drop.mono (by decide)) (fun p hp => by
      simp only [T__law_going, List.mem_cons, List.not_mem_nil, or_false] at hp
      rcases hp with rfl
      · exact k_Going) (fun _ _ _ q => q) (fun p hp => absurd hp List.not_mem_nil) (fun _ _ q => q) (fun p hp => absurd hp List.not_mem_nil)) chk__law_going cl__law_going
    have g__law_rests : GoodF P w K mg base 2 "_law_rests" fn__law_rests := d__law_rests.ok X G bd__law_rests (mod_mk (T := T__law_rests) (L := [("_law_lost", fn__law_lost)]) (LM := []) (LI := []) X G (fun p hp => by
      simp only [T__law_rests, List.mem_cons, List.not_mem_nil, or_false] at hp) bi (fun _ _ q => q) (fun p hp => by
      simp only [List.mem_cons, List.not_mem_nil, or_false] at hp
      rcases hp with rfl
      · exact g__law_lost.mono (by decide)) (fun p hp => by
      simp only [T__law_rests, List.mem_cons, List.not_mem_nil, or_false] at hp
      rcases hp with rfl
      · exact k_Going) (fun _ _ _ q => q) (fun p hp => absurd hp List.not_mem_nil) (fun _ _ q => q) (fun p hp => absurd hp List.not_mem_nil)) chk__law_rests cl__law_rests
    have g_is_tuple_of : GoodF P w K mg base 1 "is_tuple_of" fn_is_tuple_of := d_is_tuple_of.ok X G bd_is_tuple_of (mod_mk (T := T_is_tuple_of) (L := []) (LM := []) (LI := []) X G (fun p hp => by
      simp only [T_is_tuple_of, List.mem_cons, List.not_mem_nil, or_false] at hp) bi (fun _ _ q => q) (fun p hp => absurd hp List.not_mem_nil) (fun p hp => by
      simp only [T_is_tuple_of, List.mem_cons, List.not_mem_nil, or_false] at hp
      rcases hp with rfl
      · exact k_Going) (fun _ _ _ q => q) (fun p hp => absurd hp List.not_mem_nil) (fun _ _ q => q) (fun p hp => absurd hp List.not_mem_nil)) chk_is_tuple_of cl_is_tuple_of
    have g_is_integer : GoodF P w K mg base 1 "is_integer" fn_is_integer := d_is_integer.ok X G bd_is_integer (mod_mk (T := T_is_integer) (L := []) (LM := []) (LI := []) X G (fun p hp => by
      simp only [T_is_integer, List.mem_cons, List.not_mem_nil, or_false] at hp) bi (fun _ _ q => q) (fun p hp => absurd hp List.not_mem_nil) (fun p hp => by
      simp only [T_is_integer, List.mem_cons, List.not_mem_nil, or_false] at hp
      rcases hp with rfl
      · exact k_Going) (fun _ _ _ q => q) (fun p hp => absurd hp List.not_mem_nil) (fun _ _ q => q) (fun p hp => absurd hp List.not_mem_nil)) chk_is_integer cl_is_integer
    have g_is_within : GoodF P w K mg base 2 "is_within" fn_is_within := d_is_within.ok X G bd_is_within (mod_mk (T := T_is_within) (L := [("is_integer", fn_is_integer)]) (LM := []) (LI := []) X G (fun p hp => by
      simp only [T_is_within, List.mem_cons, List.not_mem_nil, or_false] at hp) bi (fun _ _ q => q) (fun p hp => by
      simp only [List.mem_cons, List.not_mem_nil, or_false] at hp
      rcases hp with rfl
      · exact g_is_integer.mono (by decide)) (fun p hp => by
      simp only [T_is_within, List.mem_cons, List.not_mem_nil, or_false] at hp
      rcases hp with rfl
      · exact k_Going) (fun _ _ _ q => q) (fun p hp => absurd hp List.not_mem_nil) (fun _ _ q => q) (fun p hp => absurd hp List.not_mem_nil)) chk_is_within cl_is_within
    have g_is_place_of : GoodF P w K mg base 3 "is_place_of" fn_is_place_of := d_is_place_of.ok X G bd_is_place_of (mod_mk (T := T_is_place_of) (L := [("is_tuple_of", fn_is_tuple_of), ("is_within", fn_is_within)]) (LM := []) (LI := []) X G (fun p hp => by
      simp only [T_is_place_of, List.mem_cons, List.not_mem_nil, or_false] at hp
      rcases hp with rfl | rfl
      · exact c_SWITCH_boards
      · exact c_CUP_boards) bi (fun _ _ q => q) (fun p hp => by
      simp only [List.mem_cons, List.not_mem_nil, or_false] at hp
      rcases hp with rfl | rfl
      · exact g_is_tuple_of.mono (by decide)
      · exact g_is_within.mono (by decide)) (fun p hp => by
      simp only [T_is_place_of, List.mem_cons, List.not_mem_nil, or_false] at hp
      rcases hp with rfl
      · exact k_Going) (fun _ _ _ q => q) (fun p hp => absurd hp List.not_mem_nil) (fun _ _ q => q) (fun p hp => absurd hp List.not_mem_nil)) chk_is_place_of cl_is_place_of
    have g_is_board : GoodF P w K mg base 4 "is_board" fn_is_board := d_is_board.ok X G bd_is_board (mod_mk (T := T_is_board) (L := [("is_tuple_of", fn_is_tuple_of), ("is_within", fn_is_within), ("is_place_of", fn_is_place_of)]) (LM := []) (LI := []) X G (fun p hp => by
      simp only [T_is_board, List.mem_cons, List.not_mem_nil, or_false] at hp
      rcases hp with rfl | rfl | rfl
      · exact c_MOST_CUPS
      · exact c_MOST_SWITCHES
      · exact c_MOST_EXITS) bi (fun _ _ q => q) (fun p hp => by
      simp only [List.mem_cons, List.not_mem_nil, or_false] at hp
      rcases hp with rfl | rfl | rfl
      · exact g_is_tuple_of.mono (by decide)
      · exact g_is_within.mono (by decide)
      · exact g_is_place_of.mono (by decide)) (fun p hp => by
      simp only [T_is_board, List.mem_cons, List.not_mem_nil, or_false] at hp
      rcases hp with rfl
      · exact k_Going) (fun _ _ _ q => q) (fun p hp => absurd hp List.not_mem_nil) (fun _ _ q => q) (fun p hp => absurd hp List.not_mem_nil)) chk_is_board cl_is_board
    have g_check_board : GoodF P w K mg base 5 "check_board" fn_check_board := d_check_board.ok X G bd_check_board (mod_mk (T := T_check_board) (L := [("is_board", fn_is_board)]) (LM := []) (LI := []) X G (fun p hp => by
      simp only [T_check_board, List.mem_cons, List.not_mem_nil, or_false] at hp) bi (fun _ _ q => q) (fun p hp => by
      simp only [List.mem_cons, List.not_mem_nil, or_false] at hp
      rcases hp with rfl
      · exact g_is_board.mono (by decide)) (fun p hp => by
      simp only [T_check_board, List.mem_cons, List.not_mem_nil, or_false] at hp
      rcases hp with rfl
      · exact k_Going) (fun _ _ _ q => q) (fun p hp => absurd hp List.not_mem_nil) (fun _ _ q => q) (fun p hp => absurd hp List.not_mem_nil)) chk_check_board cl_check_board
    have g_raw_is_hands : GoodF P w K mg base 3 "raw_is_hands" fn_raw_is_hands := d_raw_is_hands.ok X G bd_raw_is_hands (mod_mk (T := T_raw_is_hands) (L := [("is_tuple_of", fn_is_tuple_of), ("is_within", fn_is_within)]) (LM := []) (LI := []) X G (fun p hp => by
      simp only [T_raw_is_hands, List.mem_cons, List.not_mem_nil, or_false] at hp) bi (fun _ _ q => q) (fun p hp => by
      simp only [List.mem_cons, List.not_mem_nil, or_false] at hp
      rcases hp with rfl | rfl
      · exact g_is_tuple_of.mono (by decide)
      · exact g_is_within.mono (by decide)) (fun p hp => by
      simp only [T_raw_is_hands, List.mem_cons, List.not_mem_nil, or_false] at hp
      rcases hp with rfl
      · exact k_Going) (fun _ _ _ q => q) (fun p hp => absurd hp List.not_mem_nil) (fun _ _ q => q) (fun p hp => absurd hp List.not_mem_nil)) chk_raw_is_hands cl_raw_is_hands
    have g_check_hands : GoodF P w K mg base 6 "check_hands" fn_check_hands := d_check_hands.ok X G bd_check_hands (mod_mk (T := T_check_hands) (L := [("check_board", fn_check_board), ("raw_is_hands", fn_raw_is_hands)]) (LM := []) (LI := []) X G (fun p hp => by
      simp only [T_check_hands, List.mem_cons, List.not_mem_nil, or_false] at hp) bi (fun _ _ q => q) (fun p hp => by
      simp only [List.mem_cons, List.not_mem_nil, or_false] at hp
      rcases hp with rfl | rfl
      · exact g_check_board.mono (by decide)
      · exact g_raw_is_hands.mono (by decide)) (fun p hp => by
      simp only [T_check_hands, List.mem_cons, List.not_mem_nil, or_false] at hp
      rcases hp with rfl
      · exact k_Going) (fun _ _ _ q => q) (fun p hp => absurd hp List.not_mem_nil) (fun _ _ q => q) (fun p hp => absurd hp List.not_mem_nil)) chk_check_hands cl_check_hands
    have g_is_switch : GoodF P w K mg base 1 "is_switch" fn_is_switch := d_is_switch.ok X G bd_is_switch (mod_mk (T := T_is_switch) (L := []) (LM := []) (LI := []) X G (fun p hp => by
      simp only [T_is_switch, List.mem_cons, List.not_mem_nil, or_false] at hp) bi (fun _ _ q => q) (fun p hp => absurd hp List.not_mem_nil) (fun p hp => by
      simp only [T_is_switch, List.mem_cons, List.not_mem_nil, or_false] at hp
      rcases hp with rfl
      · exact k_Going) (fun _ _ _ q => q) (fun p hp => absurd hp List.not_mem_nil) (fun _ _ q => q) (fun p hp => absurd hp List.not_mem_nil)) chk_is_switch cl_is_switch
    have g_check_switch : GoodF P w K mg base 2 "check_switch" fn_check_switch := d_check_switch.ok X G bd_check_switch (mod_mk (T := T_check_switch) (L := [("is_switch", fn_is_switch)]) (LM := []) (LI := []) X G (fun p hp => by
      simp only [T_check_switch, List.mem_cons, List.not_mem_nil, or_false] at hp) bi (fun _ _ q => q) (fun p hp => by
      simp only [List.mem_cons, List.not_mem_nil, or_false] at hp
      rcases hp with rfl
      · exact g_is_switch.mono (by decide)) (fun p hp => by
      simp only [T_check_switch, List.mem_cons, List.not_mem_nil, or_false] at hp
      rcases hp with rfl
      · exact k_Going) (fun _ _ _ q => q) (fun p hp => absurd hp List.not_mem_nil) (fun _ _ q => q) (fun p hp => absurd hp List.not_mem_nil)) chk_check_switch cl_check_switch
    have g_raw_is_place : GoodF P w K mg base 4 "raw_is_place" fn_raw_is_place := d_raw_is_place.ok X G bd_raw_is_place (mod_mk (T := T_raw_is_place) (L := [("is_place_of", fn_is_place_of)]) (LM := []) (LI := []) X G (fun p hp => by
      simp only [T_raw_is_place, List.mem_cons, List.not_mem_nil, or_false] at hp) bi (fun _ _ q => q) (fun p hp => by
      simp only [List.mem_cons, List.not_mem_nil, or_false] at hp
      rcases hp with rfl
      · exact g_is_place_of.mono (by decide)) (fun p hp => by
      simp only [T_raw_is_place, List.mem_cons, List.not_mem_nil, or_false] at hp
      rcases hp with rfl
      · exact k_Going) (fun _ _ _ q => q) (fun p hp => absurd hp List.not_mem_nil) (fun _ _ q => q) (fun p hp => absurd hp List.not_mem_nil)) chk_raw_is_place cl_raw_is_place
    have g_raw_lost : GoodF P w K mg base 1 "raw_lost" fn_raw_lost := d_raw_lost.ok X G bd_raw_lost (mod_mk (T := T_raw_lost) (L := []) (LM := []) (LI := []) X G (fun p hp => by
      simp only [T_raw_lost, List.mem_cons, List.not_mem_nil, or_false] at hp
      rcases hp with rfl
      · exact c_CUP_boards) bi (fun _ _ q => q) (fun p hp => absurd hp List.not_mem_nil) (fun p hp => by
      simp only [T_raw_lost, List.mem_cons, List.not_mem_nil, or_false] at hp
      rcases hp with rfl
      · exact k_Going) (fun _ _ _ q => q) (fun p hp => absurd hp List.not_mem_nil) (fun _ _ q => q) (fun p hp => absurd hp List.not_mem_nil)) chk_raw_lost cl_raw_lost
    have g_raw_all_rests : GoodF P w K mg base 2 "raw_all_rests" fn_raw_all_rests := d_raw_all_rests.ok X G bd_raw_all_rests (mod_mk (T := T_raw_all_rests) (L := [("raw_lost", fn_raw_lost)]) (LM := []) (LI := []) X G (fun p hp => by
      simp only [T_raw_all_rests, List.mem_cons, List.not_mem_nil, or_false] at hp
      rcases hp with rfl | rfl
      · exact c_CUP_wishes
      · exact c_SWITCH_wishes) bi (fun _ _ q => q) (fun p hp => by
      simp only [List.mem_cons, List.not_mem_nil, or_false] at hp
      rcases hp with rfl
      · exact g_raw_lost.mono (by decide)) (fun p hp => by
      simp only [T_raw_all_rests, List.mem_cons, List.not_mem_nil, or_false] at hp
      rcases hp with rfl
      · exact k_Going) (fun _ _ _ q => q) (fun p hp => absurd hp List.not_mem_nil) (fun _ _ q => q) (fun p hp => absurd hp List.not_mem_nil)) chk_raw_all_rests cl_raw_all_rests
    have g_check_rest : GoodF P w K mg base 5 "check_rest" fn_check_rest := d_check_rest.ok X G bd_check_rest (mod_mk (T := T_check_rest) (L := [("raw_is_place", fn_raw_is_place), ("raw_all_rests", fn_raw_all_rests)]) (LM := []) (LI := []) X G (fun p hp => by
      simp only [T_check_rest, List.mem_cons, List.not_mem_nil, or_false] at hp) bi (fun _ _ q => q) (fun p hp => by
      simp only [List.mem_cons, List.not_mem_nil, or_false] at hp
      rcases hp with rfl | rfl
      · exact g_raw_is_place.mono (by decide)
      · exact g_raw_all_rests.mono (by decide)) (fun p hp => by
      simp only [T_check_rest, List.mem_cons, List.not_mem_nil, or_false] at hp
      rcases hp with rfl
      · exact k_Going) (fun _ _ _ q => q) (fun p hp => absurd hp List.not_mem_nil) (fun _ _ q => q) (fun p hp => absurd hp List.not_mem_nil)) chk_check_rest cl_check_rest
    have g_raw_rests : GoodF P w K mg base 1 "raw_rests" fn_raw_rests := d_raw_rests.ok X G bd_raw_rests (mod_mk (T := T_raw_rests) (L := []) (LM := []) (LI := []) X G (fun p hp => by
      simp only [T_raw_rests, List.mem_cons, List.not_mem_nil, or_false] at hp
      rcases hp with rfl
      · exact c_CUP_boards) bi (fun _ _ q => q) (fun p hp => absurd hp List.not_mem_nil) (fun p hp => by
      simp only [T_raw_rests, List.mem_cons, List.not_mem_nil, or_false] at hp
      rcases hp with rfl
      · exact k_Going) (fun _ _ _ q => q) (fun p hp => absurd hp List.not_mem_nil) (fun _ _ q => q) (fun p hp => absurd hp List.not_mem_nil)) chk_raw_rests cl_raw_rests
    have g_raw_run : GoodF P w K mg base 2 "raw_run" fn_raw_run := d_raw_run.ok X G bd_raw_run (mod_mk (T := T_raw_run) (L := [("raw_lost", fn_raw_lost), ("raw_rests", fn_raw_rests)]) (LM := []) (LI := []) X G (fun p hp => by
      simp only [T_raw_run, List.mem_cons, List.not_mem_nil, or_false] at hp) bi (fun _ _ q => q) (fun p hp => by
      simp only [List.mem_cons, List.not_mem_nil, or_false] at hp
      rcases hp with rfl | rfl
      · exact g_raw_lost.mono (by decide)
      · exact g_raw_rests.mono (by decide)) (fun p hp => by
      simp only [T_raw_run, List.mem_cons, List.not_mem_nil, or_false] at hp
      rcases hp with rfl
      · exact k_Going) (fun _ _ _ q => q) (fun p hp => absurd hp List.not_mem_nil) (fun _ _ q => q) (fun p hp => absurd hp List.not_mem_nil)) chk_raw_run cl_raw_run
    have g_raw_comes : GoodF P w K mg base 3 "raw_comes" fn_raw_comes := d_raw_comes.ok X G bd_raw_comes (mod_mk (T := T_raw_comes) (L := [("raw_run", fn_raw_run)]) (LM := []) (LI := []) X G (fun p hp => by
      simp only [T_raw_comes, List.mem_cons, List.not_mem_nil, or_false] at hp
      rcases hp with rfl | rfl
      · exact c_SWITCH_wishes
      · exact c_MOST_MOVES_wishes) bi (fun _ _ q => q) (fun p hp => by
      simp only [List.mem_cons, List.not_mem_nil, or_false] at hp
      rcases hp with rfl
      · exact g_raw_run.mono (by decide)) (fun p hp => by
      simp only [T_raw_comes, List.mem_cons, List.not_mem_nil, or_false] at hp
      rcases hp with rfl
      · exact k_Going) (fun _ _ _ q => q) (fun p hp => absurd hp List.not_mem_nil) (fun _ _ q => q) (fun p hp => absurd hp List.not_mem_nil)) chk_raw_comes cl_raw_comes
    have g_first_drop : GoodF P w K mg base 7 "first_drop" fn_first_drop := d_first_drop.ok X G bd_first_drop (mod_mk (T := T_first_drop) (L := [("check_board", fn_check_board), ("check_hands", fn_check_hands), ("check_switch", fn_check_switch), ("check_rest", fn_check_rest), ("raw_comes", fn_raw_comes)]) (LM := []) (LI := []) X G (fun p hp => by
      simp only [T_first_drop, List.mem_cons, List.not_mem_nil, or_false] at hp
      rcases hp with rfl
      · exact c_MOST_DROPS_wishes) bi (fun _ _ q => q) (fun p hp => by
      simp only [List.mem_cons, List.not_mem_nil, or_false] at hp
      rcases hp with rfl | rfl | rfl | rfl | rfl
      · exact g_check_board.mono (by decide)
      · exact g_check_hands.mono (by decide)
      · exact g_check_switch.mono (by decide)
      · exact g_check_rest.mono (by decide)
      · exact g_raw_comes.mono (by decide)) (fun p hp => by
      simp only [T_first_drop, List.mem_cons, List.not_mem_nil, or_false] at hp
      rcases hp with rfl
      · exact k_Going) (fun _ _ _ q => q) (fun p hp => absurd hp List.not_mem_nil) (fun _ _ q => q) (fun p hp => absurd hp List.not_mem_nil)) chk_first_drop cl_first_drop
    have g__law_first : GoodF P w K mg base 4 "_law_first" fn__law_first := d__law_first.ok X G bd__law_first (mod_mk (T := T__law_first) (L := [("_law_drop", fn__law_drop)]) (LM := []) (LI := []) X G (fun p hp => by
      simp only [T__law_first, List.mem_cons, List.not_mem_nil, or_false] at hp) bi (fun _ _ q => q) (fun p hp => by
      simp only [List.mem_cons, List.not_mem_nil, or_false] at hp
      rcases hp with rfl
      · exact g__law_drop.mono (by decide)) (fun p hp => by
      simp only [T__law_first, List.mem_cons, List.not_mem_nil, or_false] at hp
      rcases hp with rfl
      · exact k_Going) (fun _ _ _ q => q) (fun p hp => absurd hp List.not_mem_nil) (fun _ _ q => q) (fun p hp => absurd hp List.not_mem_nil)) chk__law_first cl__law_first
    have g_Going_is_over : GoodM P w K mg base 1 "Going" "is_over" fn_Going_is_over := d_Going_is_over.ok k_Going X G bd_Going_is_over (mod_mk (T := T_Going_is_over) (L := []) (LM := []) (LI := []) X G (fun p hp => by
      simp only [T_Going_is_over, List.mem_cons, List.not_mem_nil, or_false] at hp) bi (fun _ _ q => q) (fun p hp => absurd hp List.not_mem_nil) (fun p hp => by
      simp only [T_Going_is_over, List.mem_cons, List.not_mem_nil, or_false] at hp
      rcases hp with rfl
      · exact k_Going) (fun _ _ _ q => q) (fun p hp => absurd hp List.not_mem_nil) (fun _ _ q => q) (fun p hp => absurd hp List.not_mem_nil)) chk_Going_is_over cl_Going_is_over
    have g_Going_next_level : GoodM P w K mg base 4 "Going" "next_level" fn_Going_next_level := d_Going_next_level.ok k_Going X G bd_Going_next_level (mod_mk (T := T_Going_next_level) (L := [("raw_comes", fn_raw_comes)]) (LM := []) (LI := []) X G (fun p hp => by
      simp only [T_Going_next_level, List.mem_cons, List.not_mem_nil, or_false] at hp
      rcases hp with rfl
      · exact c_MOST_HANDS) bi (fun _ _ q => q) (fun p hp => by
      simp only [List.mem_cons, List.not_mem_nil, or_false] at hp
      rcases hp with rfl
      · exact g_raw_comes.mono (by decide)) (fun p hp => by
      simp only [T_Going_next_level, List.mem_cons, List.not_mem_nil, or_false] at hp
      rcases hp with rfl
      · exact k_Going) (fun _ _ _ q => q) (fun p hp => absurd hp List.not_mem_nil) (fun _ _ q => q) (fun p hp => absurd hp List.not_mem_nil)) chk_Going_next_level cl_Going_next_level
    have g_Going___init__ : GoodI P w K mg base 2 "Going" fn_Going___init__ := d_Going___init__.init k_Going X G bd_Going___init__ (mod_mk (T := T_Going___init__) (L := []) (LM := []) (LI := []) X G (fun p hp => by
      simp only [T_Going___init__, List.mem_cons, List.not_mem_nil, or_false] at hp) bi (fun _ _ q => q) (fun p hp => absurd hp List.not_mem_nil) (fun p hp => by
      simp only [T_Going___init__, List.mem_cons, List.not_mem_nil, or_false] at hp
      rcases hp with rfl
      · exact k_Going) (fun _ _ _ q => q) (fun p hp => absurd hp List.not_mem_nil) (fun _ _ q => q) (fun p hp => absurd hp List.not_mem_nil)) chk_Going___init__ cl_Going___init__
    have g_shortest_row : GoodF P w K mg base 7 "shortest_row" fn_shortest_row := d_shortest_row.ok X G bd_shortest_row (mod_mk (T := T_shortest_row) (L := [("check_board", fn_check_board), ("check_hands", fn_check_hands), ("check_rest", fn_check_rest)]) (LM := [(("Going", "is_over"), fn_Going_is_over), (("Going", "next_level"), fn_Going_next_level)]) (LI := [("Going", fn_Going___init__)]) X G (fun p hp => by
      simp only [T_shortest_row, List.mem_cons, List.not_mem_nil, or_false] at hp) bi (fun _ _ q => q) (fun p hp => by
      simp only [List.mem_cons, List.not_mem_nil, or_false] at hp
      rcases hp with rfl | rfl | rfl
      · exact g_check_board.mono (by decide)
      · exact g_check_hands.mono (by decide)
      · exact g_check_rest.mono (by decide)) (fun p hp => by
      simp only [T_shortest_row, List.mem_cons, List.not_mem_nil, or_false] at hp
      rcases hp with rfl
      · exact k_Going) (fun _ _ _ q => q) (fun p hp => by
      simp only [List.mem_cons, List.not_mem_nil, or_false] at hp
      rcases hp with rfl | rfl
      · exact g_Going_is_over.mono (by decide)
      · exact g_Going_next_level.mono (by decide)) (fun _ _ q => q) (fun p hp => by
      simp only [List.mem_cons, List.not_mem_nil, or_false] at hp
      rcases hp with rfl
      · exact g_Going___init__.mono (by decide))) chk_shortest_row cl_shortest_row
    have g_are_few_places : GoodF P w K mg base 5 "are_few_places" fn_are_few_places := d_are_few_places.ok X G bd_are_few_places (mod_mk (T := T_are_few_places) (L := [("raw_is_place", fn_raw_is_place)]) (LM := []) (LI := []) X G (fun p hp => by
      simp only [T_are_few_places, List.mem_cons, List.not_mem_nil, or_false] at hp
      rcases hp with rfl
      · exact c_MOST_DROPS_running) bi (fun _ _ q => q) (fun p hp => by
      simp only [List.mem_cons, List.not_mem_nil, or_false] at hp
      rcases hp with rfl
      · exact g_raw_is_place.mono (by decide)) (fun p hp => by
      simp only [T_are_few_places, List.mem_cons, List.not_mem_nil, or_false] at hp
      rcases hp with rfl
      · exact k_Going) (fun _ _ _ q => q) (fun p hp => absurd hp List.not_mem_nil) (fun _ _ q => q) (fun p hp => absurd hp List.not_mem_nil)) chk_are_few_places cl_are_few_places
    have g_raw_whole : GoodF P w K mg base 3 "raw_whole" fn_raw_whole := d_raw_whole.ok X G bd_raw_whole (mod_mk (T := T_raw_whole) (L := [("raw_run", fn_raw_run)]) (LM := []) (LI := []) X G (fun p hp => by
      simp only [T_raw_whole, List.mem_cons, List.not_mem_nil, or_false] at hp
      rcases hp with rfl
      · exact c_MOST_MOVES_running) bi (fun _ _ q => q) (fun p hp => by
      simp only [List.mem_cons, List.not_mem_nil, or_false] at hp
      rcases hp with rfl
      · exact g_raw_run.mono (by decide)) (fun p hp => by
      simp only [T_raw_whole, List.mem_cons, List.not_mem_nil, or_false] at hp
      rcases hp with rfl
      · exact k_Going) (fun _ _ _ q => q) (fun p hp => absurd hp List.not_mem_nil) (fun _ _ q => q) (fun p hp => absurd hp List.not_mem_nil)) chk_raw_whole cl_raw_whole
    have g_raw_drops : GoodF P w K mg base 4 "raw_drops" fn_raw_drops := d_raw_drops.ok X G bd_raw_drops (mod_mk (T := T_raw_drops) (L := [("raw_whole", fn_raw_whole)]) (LM := []) (LI := []) X G (fun p hp => by
      simp only [T_raw_drops, List.mem_cons, List.not_mem_nil, or_false] at hp) bi (fun _ _ q => q) (fun p hp => by
      simp only [List.mem_cons, List.not_mem_nil, or_false] at hp
      rcases hp with rfl
      · exact g_raw_whole.mono (by decide)) (fun p hp => by
      simp only [T_raw_drops, List.mem_cons, List.not_mem_nil, or_false] at hp
      rcases hp with rfl
      · exact k_Going) (fun _ _ _ q => q) (fun p hp => absurd hp List.not_mem_nil) (fun _ _ q => q) (fun p hp => absurd hp List.not_mem_nil)) chk_raw_drops cl_raw_drops
    have g_drops : GoodF P w K mg base 7 "drops" fn_drops := d_drops.ok X G bd_drops (mod_mk (T := T_drops) (L := [("check_hands", fn_check_hands), ("are_few_places", fn_are_few_places), ("raw_drops", fn_raw_drops)]) (LM := []) (LI := []) X G (fun p hp => by
      simp only [T_drops, List.mem_cons, List.not_mem_nil, or_false] at hp) bi (fun _ _ q => q) (fun p hp => by
      simp only [List.mem_cons, List.not_mem_nil, or_false] at hp
      rcases hp with rfl | rfl | rfl
      · exact g_check_hands.mono (by decide)
      · exact g_are_few_places.mono (by decide)
      · exact g_raw_drops.mono (by decide)) (fun p hp => by
      simp only [T_drops, List.mem_cons, List.not_mem_nil, or_false] at hp
      rcases hp with rfl
      · exact k_Going) (fun _ _ _ q => q) (fun p hp => absurd hp List.not_mem_nil) (fun _ _ q => q) (fun p hp => absurd hp List.not_mem_nil)) chk_drops cl_drops
    have g_hands_led_to : GoodF P w K mg base 7 "hands_led_to" fn_hands_led_to := d_hands_led_to.ok X G bd_hands_led_to (mod_mk (T := T_hands_led_to) (L := [("check_board", fn_check_board), ("check_hands", fn_check_hands)]) (LM := [(("Going", "is_over"), fn_Going_is_over), (("Going", "next_level"), fn_Going_next_level)]) (LI := [("Going", fn_Going___init__)]) X G (fun p hp => by
      simp only [T_hands_led_to, List.mem_cons, List.not_mem_nil, or_false] at hp) bi (fun _ _ q => q) (fun p hp => by
      simp only [List.mem_cons, List.not_mem_nil, or_false] at hp
      rcases hp with rfl | rfl
      · exact g_check_board.mono (by decide)
      · exact g_check_hands.mono (by decide)) (fun p hp => by
      simp only [T_hands_led_to, List.mem_cons, List.not_mem_nil, or_false] at hp
      rcases hp with rfl
      · exact k_Going) (fun _ _ _ q => q) (fun p hp => by
      simp only [List.mem_cons, List.not_mem_nil, or_false] at hp
      rcases hp with rfl | rfl
      · exact g_Going_is_over.mono (by decide)
      · exact g_Going_next_level.mono (by decide)) (fun _ _ q => q) (fun p hp => by
      simp only [List.mem_cons, List.not_mem_nil, or_false] at hp
      rcases hp with rfl
      · exact g_Going___init__.mono (by decide))) chk_hands_led_to cl_hands_led_to
    have g__law_any : GoodF P w K mg base 2 "_law_any" fn__law_any := d__law_any.ok X G bd__law_any (mod_mk (T := T__law_any) (L := [("_law_draw", fn__law_draw)]) (LM := []) (LI := []) X G (fun p hp => by
      simp only [T__law_any, List.mem_cons, List.not_mem_nil, or_false] at hp) bi (fun _ _ q => q) (fun p hp => by
      simp only [List.mem_cons, List.not_mem_nil, or_false] at hp
      rcases hp with rfl
      · exact g__law_draw.mono (by decide)) (fun p hp => by
      simp only [T__law_any, List.mem_cons, List.not_mem_nil, or_false] at hp
      rcases hp with rfl
      · exact k_Going) (fun _ _ _ q => q) (fun p hp => absurd hp List.not_mem_nil) (fun _ _ q => q) (fun p hp => absurd hp List.not_mem_nil)) chk__law_any cl__law_any
    have g_row_to : GoodF P w K mg base 7 "row_to" fn_row_to := d_row_to.ok X G bd_row_to (mod_mk (T := T_row_to) (L := [("check_board", fn_check_board), ("check_hands", fn_check_hands)]) (LM := [(("Going", "is_over"), fn_Going_is_over), (("Going", "next_level"), fn_Going_next_level)]) (LI := [("Going", fn_Going___init__)]) X G (fun p hp => by
      simp only [T_row_to, List.mem_cons, List.not_mem_nil, or_false] at hp) bi (fun _ _ q => q) (fun p hp => by
      simp only [List.mem_cons, List.not_mem_nil, or_false] at hp
      rcases hp with rfl | rfl
      · exact g_check_board.mono (by decide)
      · exact g_check_hands.mono (by decide)) (fun p hp => by
      simp only [T_row_to, List.mem_cons, List.not_mem_nil, or_false] at hp
      rcases hp with rfl
      · exact k_Going) (fun _ _ _ q => q) (fun p hp => by
      simp only [List.mem_cons, List.not_mem_nil, or_false] at hp
      rcases hp with rfl | rfl
      · exact g_Going_is_over.mono (by decide)
      · exact g_Going_next_level.mono (by decide)) (fun _ _ q => q) (fun p hp => by
      simp only [List.mem_cons, List.not_mem_nil, or_false] at hp
      rcases hp with rfl
      · exact g_Going___init__.mono (by decide))) chk_row_to cl_row_to
    exact mod_mk (T := T_law) (L := [("_law_hand", fn__law_hand), ("_law_board", fn__law_board), ("_law_hands", fn__law_hands), ("_law_draw", fn__law_draw), ("_law_going", fn__law_going), ("_law_rests", fn__law_rests), ("first_drop", fn_first_drop), ("_law_first", fn__law_first), ("shortest_row", fn_shortest_row), ("drops", fn_drops), ("hands_led_to", fn_hands_led_to), ("_law_any", fn__law_any), ("row_to", fn_row_to)]) (LM := []) (LI := []) X G (fun p hp => by
      simp only [T_law, List.mem_cons, List.not_mem_nil, or_false] at hp) bi (fun _ _ q => q) (fun p hp => by
      simp only [List.mem_cons, List.not_mem_nil, or_false] at hp
      rcases hp with rfl | rfl | rfl | rfl | rfl | rfl | rfl | rfl | rfl | rfl | rfl | rfl | rfl
      · exact g__law_hand.mono (by decide)
      · exact g__law_board.mono (by decide)
      · exact g__law_hands.mono (by decide)
      · exact g__law_draw.mono (by decide)
      · exact g__law_going.mono (by decide)
      · exact g__law_rests.mono (by decide)
      · exact g_first_drop.mono (by decide)
      · exact g__law_first.mono (by decide)
      · exact g_shortest_row.mono (by decide)
      · exact g_drops.mono (by decide)
      · exact g_hands_led_to.mono (by decide)
      · exact g__law_any.mono (by decide)
      · exact g_row_to.mono (by decide)) (fun p hp => by
      simp only [T_law, List.mem_cons, List.not_mem_nil, or_false] at hp
      rcases hp with rfl
      · exact k_Going) (fun _ _ _ q => q) (fun p hp => absurd hp List.not_mem_nil) (fun _ _ q => q) (fun p hp => absurd hp List.not_mem_nil)
  exact law_mk X G hfa d_law bd_law (fun _ _ _ _ _ _ _ => rfl) all chk_law cl_law rfl
end
end Mp
/-! Tools for plain proofs over the own wp. -/
namespace Mp
open PySem
/-- nothing that stood is changed -/
def Ext (h h' : Hh) : Prop := ∀ a c, h a = some c → h' a = some c
theorem Ext.refl (h : Hh) : Ext h h := fun _ _ e => e
theorem Ext.trans {h h1 h2 : Hh} (a : Ext h h1) (b : Ext h1 h2) : Ext h h2 := fun c x e => b c x (a c x e)
theorem Ext.up {h : Hh} {p : Nat} {c : Cell} (e : h p = none) : Ext h (up h p c) := fun a x q => by
  have n : a ≠ p := by rintro rfl; rw [e] at q; cases q
  rw [up_ne n]; exact q
theorem Ext.wr {h h1 : Hh} {p : Nat} {c : Cell} (x : Ext h h1) (e : h p = none) : Ext h (Mp.up h1 p c) := fun a y q => by
  have n : a ≠ p := by rintro rfl; rw [e] at q; cases q
  rw [up_ne n]; exact x a y q
theorem ne_fresh {h : Hh} {a p : Nat} {c : Cell} (e : h a = some c) (f : h p = none) : a ≠ p := by rintro rfl; rw [e] at f; cases f
@[simp] theorem truth_bl (h : Hh) (b : Bool) : truth h (.bl b) = some b := rfl
@[simp] theorem truth_non (h : Hh) : truth h .non = some false := rfl
@[simp] theorem truth_int (h : Hh) (i : Int) : truth h (.int i) = some (i != 0) := rfl
@[simp] theorem truth_tup (h : Hh) (xs : List D) : truth h (.tup xs) = some (!xs.isEmpty) := rfl
@[simp] theorem seqD_tup (h : Hh) (xs : List D) : seqD h (.tup xs) = some xs := rfl
@[simp] theorem lenD_tup (h : Hh) (xs : List D) : lenD h (.tup xs) = some xs.length := rfl
@[simp] theorem tyD_bl (h : Hh) (b : Bool) : tyD h (.bl b) = some .bool := rfl
@[simp] theorem tyD_int (h : Hh) (b : Int) : tyD h (.int b) = some .int := rfl
@[simp] theorem tyD_str (h : Hh) (b : List Nat) : tyD h (.str b) = some .str := rfl
@[simp] theorem tyD_non (h : Hh) : tyD h .non = some .non := rfl
@[simp] theorem tyD_tup (h : Hh) (b : List D) : tyD h (.tup b) = some .tuple := rfl
theorem lenD_lst {h : Hh} {a : Nat} {xs : List D} (e : h a = some (.lst xs)) : lenD h (.ref a) = some xs.length := by unfold lenD; simp only [e]
theorem seqD_lst {h : Hh} {a : Nat} {xs : List D} (e : h a = some (.lst xs)) : seqD h (.ref a) = some xs := by unfold seqD; simp only [e]
theorem tyD_lst {h : Hh} {a : Nat} {xs : List D} (e : h a = some (.lst xs)) : tyD h (.ref a) = some .list := by unfold tyD; simp only [e]
theorem truth_lst {h : Hh} {a : Nat} {xs : List D} (e : h a = some (.lst xs)) : truth h (.ref a) = some (!xs.isEmpty) := by unfold truth; simp only [e]
theorem ix_lst {h : Hh} {a : Nat} {xs : List D} {k : Int} {Q : PV} (e : h a = some (.lst xs)) : opIx (.ref a) (.int k) h Q = ∃ d, L2.atI xs k = some d ∧ Q d h := by
  unfold opIx
  simp only [e]
  refine propext ⟨fun ⟨k', d, e, q⟩ => ?_, fun ⟨d, q⟩ => ⟨k, d, rfl, q⟩⟩
  cases e; exact ⟨d, q⟩
theorem oix_dct {h : Hh} {a : Nat} {kvs : List (D × D)} {k : D} {Q : PV} (e : h a = some (.dct kvs)) : opIx (.ref a) k h Q = (isKey k = true ∧ ∃ d, look kvs k = some d ∧ Q d h) := by
  unfold opIx
  simp only [e]
theorem oix_dcT {h : Hh} {a : Nat} {kvs : List (D × D)} {k : D} {Q : PV} (e : h a = some (.dcT kvs)) : opIx (.ref a) k h Q = (isKeyT k = true ∧ ∃ d, look kvs k = some d ∧ Q d h) := by
  unfold opIx
  simp only [e]
theorem lenD_dcT {h : Hh} {a : Nat} {kvs : List (D × D)} (e : h a = some (.dcT kvs)) : lenD h (.ref a) = some kvs.length := by unfold lenD; simp only [e]
theorem isDct_dcT {h : Hh} {a : Nat} {kvs : List (D × D)} (e : h a = some (.dcT kvs)) : isDct h (.ref a) = true := by unfold isDct; simp only [e]
theorem getD_dcT {h : Hh} {a : Nat} {kvs : List (D × D)} {y : D} {zs : List D} {Q : PV} (e : h a = some (.dcT kvs)) : getD (.ref a) y zs h Q = (isKeyT y = true ∧ ∃ z, dfl zs = some z ∧ Q ((look kvs y).getD z) h) := by unfold getD; simp only [e]
theorem dfl_0 : dfl [] = some .non := rfl
theorem dfl_1 {z : D} : dfl [z] = some z := rfl
theorem ix_tup {h : Hh} {xs : List D} {k : Int} {Q : PV} : opIx (.tup xs) (.int k) h Q = ∃ d, L2.atI xs k = some d ∧ Q d h := rfl
theorem atI_nat {α : Type} {xs : List α} {n : Nat} : L2.atI xs (n : Int) = xs[n]? := by
  unfold L2.atI L2.ixN
  by_cases h : n < xs.length
  · have : (n : Int) < xs.length := by omega
    simp [this]
  · have : ¬ (n : Int) < xs.length := by omega
    simp [this, List.getElem?_eq_none (Nat.le_of_not_lt h)]
theorem szl {n : Nat} (h : n ≤ 1000000) : n < sz := Nat.lt_of_le_of_lt h (by decide)
theorem szl2 {n : Nat} (h : n ≤ 1000000) : n ≤ sz := Nat.le_trans h (by decide)
theorem atI_ok {α : Type} {xs : List α} {p : Int} (h0 : 0 ≤ p) (h1 : p < xs.length) : ∃ x, L2.atI xs p = some x ∧ xs[p.toNat]? = some x := by
  obtain ⟨n, rfl⟩ := Int.eq_ofNat_of_zero_le h0
  have hn : n < xs.length := by omega
  exact ⟨xs[n], by rw [atI_nat, List.getElem?_eq_getElem hn], by rw [Int.toNat_natCast, List.getElem?_eq_getElem hn]⟩
theorem atI_0 {α : Type} {x : α} {xs : List α} : L2.atI (x :: xs) 0 = some x := by rw [show (0 : Int) = ((0 : Nat) : Int) from rfl, atI_nat]; rfl
theorem atI_1 {α : Type} {x y : α} {xs : List α} : L2.atI (x :: y :: xs) 1 = some y := by rw [show (1 : Int) = ((1 : Nat) : Int) from rfl, atI_nat]; rfl
theorem atI_2 {α : Type} {x y z : α} {xs : List α} : L2.atI (x :: y :: z :: xs) 2 = some z := by rw [show (2 : Int) = ((2 : Nat) : Int) from rfl, atI_nat]; rfl
theorem atI_3 {α : Type} {x y z w : α} {xs : List α} : L2.atI (x :: y :: z :: w :: xs) 3 = some w := by rw [show (3 : Int) = ((3 : Nat) : Int) from rfl, atI_nat]; rfl
theorem atI_4 {α : Type} {x y z w v : α} {xs : List α} : L2.atI (x :: y :: z :: w :: v :: xs) 4 = some v := by rw [show (4 : Int) = ((4 : Nat) : Int) from rfl, atI_nat]; rfl
section
variable {h : Hh} {Q : PV} {i j : Int} {x y : D} {b : Bool} {xs ys : List D} {a c : Nat}
theorem o_ne0 : opC .ne x y h Q = ∃ x' y', den h 20 x = some x' ∧ den h 20 y = some y' ∧ fits 20 x' = true ∧ fits 20 y' = true ∧ Q (.bl (!eqv x' y')) h := rfl
theorem o_add : opB .add (.int i) (.int j) h Q = Q (.int (i + j)) h := rfl
theorem o_addT : opB .add (.tup xs) (.tup ys) h Q = (xs.length + ys.length ≤ sz ∧ Q (.tup (xs ++ ys)) h) := rfl
theorem o_addL : opB .add (.ref a) (.ref c) h Q = ∃ xs ys, h a = some (.lst xs) ∧ h c = some (.lst ys) ∧ xs.length + ys.length ≤ sz ∧ ∀ p, h p = none → Q (.ref p) (up h p (.lst (xs ++ ys))) := rfl
theorem o_sub : opB .sub (.int i) (.int j) h Q = Q (.int (i - j)) h := rfl
theorem o_mul : opB .mul (.int i) (.int j) h Q = (MulOk i j ∧ Q (.int (i * j)) h) := rfl
theorem o_mulT : opB .mul (.tup xs) (.int i) h Q = (xs ≠ [] ∧ 1 ≤ i ∧ i ≤ 1000 ∧ xs.length ≤ 1000 ∧ Q (.tup (List.replicate i.toNat xs).flatten) h) := rfl
theorem o_neB {b c : Bool} : opC .ne (.bl b) (.bl c) h Q = Q (.bl (!(b == c))) h := by
  rw [o_ne0]
  refine propext ⟨fun ⟨x', y', e1, e2, _, _, q⟩ => ?_, fun q => ⟨.bl b, .bl c, rfl, rfl, rfl, rfl, ?_⟩⟩
  · cases e1; cases e2
    exact q
  · exact q
theorem o_isnotB {b c : Bool} : opC .isnot (.bl b) (.bl c) h Q = Q (.bl (!decide (b = c))) h := rfl
theorem o_isB {b c : Bool} : opC .is (.bl b) (.bl c) h Q = Q (.bl (decide (b = c))) h := rfl
theorem m_pop {d : D} (e : h a = some (.lst (xs ++ [d]))) (q : Q d (up h a (.lst xs))) : opM .pop (.ref a) [] h Q := ⟨xs, d, e, q⟩
theorem o_fdiv : opB .fdiv (.int i) (.int j) h Q = ((0 < j ∧ j.natAbs.log2 < 9000) ∧ Q (.int (i / j)) h) := rfl
theorem o_mod : opB .mod (.int i) (.int j) h Q = (0 < j ∧ Q (.int (i % j)) h) := rfl
theorem o_pow : opB .pow (.int i) (.int j) h Q = ((0 ≤ j ∧ j ≤ 1000000 ∧ i.natAbs < 2 ^ 64) ∧ Q (.int (i ^ j.toNat)) h) := rfl
theorem o_eq : opC .eq x y h Q = ∃ x' y', den h 20 x = some x' ∧ den h 20 y = some y' ∧ fits 20 x' = true ∧ fits 20 y' = true ∧ Q (.bl (eqv x' y')) h := rfl
theorem o_ne : opC .ne x y h Q = ∃ x' y', den h 20 x = some x' ∧ den h 20 y = some y' ∧ fits 20 x' = true ∧ fits 20 y' = true ∧ Q (.bl (!eqv x' y')) h := rfl
theorem o_lt : opC .lt (.int i) (.int j) h Q = Q (.bl (decide (i < j))) h := rfl
theorem o_le : opC .le (.int i) (.int j) h Q = Q (.bl (decide (i ≤ j))) h := rfl
theorem o_gt : opC .gt (.int i) (.int j) h Q = Q (.bl (decide (j < i))) h := rfl
theorem o_ge : opC .ge (.int i) (.int j) h Q = Q (.bl (decide (j ≤ i))) h := rfl
theorem o_ltT : opC .lt (.tup xs) (.tup ys) h Q = (flat 20 (.tup xs) = true ∧ flat 20 (.tup ys) = true ∧ alk (.tup xs) (.tup ys) = true ∧ (D.tup xs) ≠ .non ∧ Q (.bl (ltD (.tup xs) (.tup ys))) h) := rfl
theorem o_in : opC .isin x y h Q = memD h x y fun b => Q (.bl b) h := rfl
theorem o_notin : opC .notin x y h Q = memD h x y fun b => Q (.bl (!b)) h := rfl
theorem o_is : opC .is x .non h Q = Q (.bl (isNonD x)) h := by cases x <;> rfl
theorem o_isnot : opC .isnot x .non h Q = Q (.bl (!isNonD x)) h := by cases x <;> rfl
theorem mem_lst {P : Bool → Prop} (e : h a = some (.lst xs)) : memD h x (.ref a) P = ∃ x' xs', den h 20 x = some x' ∧ xs.mapM (den h 20) = some xs' ∧ fits 20 x' = true ∧ xs'.all (fits 20) = true ∧ P (xs'.any fun z => eqv z x') := by
  unfold memD
  simp only [e]
theorem mem_dct {P : Bool → Prop} {kvs : List (D × D)} (e : h a = some (.dct kvs)) : memD h x (.ref a) P = (isKey x = true ∧ P (kvs.any fun p => eqv p.1 x)) := by
  unfold memD
  simp only [e]
theorem mem_dcT {P : Bool → Prop} {kvs : List (D × D)} (e : h a = some (.dcT kvs)) : memD h x (.ref a) P = (isKeyT x = true ∧ P (kvs.any fun p => eqv p.1 x)) := by
  unfold memD
  simp only [e]
theorem o_addS {s t : List Nat} : opB .add (.str s) (.str t) h Q = (s.length + t.length ≤ sz ∧ Q (.str (s ++ t)) h) := rfl
theorem f_str : opF .str [.int i] h Q = (i.natAbs.log2 < 1920 ∧ Q (.str (itoa i)) h) := rfl
theorem ix_str {s : List Nat} {k : Int} : opIx (.str s) (.int k) h Q = (s.length ≤ sz ∧ ∃ c, L2.atI s k = some c ∧ Q (.str [c]) h) := rfl
theorem f_sorted : opF .sorted [.ref a] h Q = ∃ xs, (h a = some (.lst xs) ∨ ∃ kvs, h a = some (.dcT kvs) ∧ xs = kvs.map (·.1)) ∧ xs.length ≤ sz ∧ xs.all (flat 20) = true ∧ (∀ x ∈ xs, ∀ y ∈ xs, alk x y = true) ∧ (xs.all tupN = true ∨ xs.all noTup = true) ∧ ∀ p, h p = none → Q (.ref p) (up h p (.lst (xs.mergeSort leD))) := rfl
theorem f_items : opF .items [.ref a] h Q = ∃ kvs, h a = some (.dct kvs) ∧ ∀ p, h p = none → Q (.ref p) (up h p (.lst (kvs.map fun q => .tup [q.1, q.2]))) := rfl
theorem m_count : opM .count (.ref a) [x] h Q = ∃ xs xs' d', h a = some (.lst xs) ∧ xs.mapM (den h 20) = some xs' ∧ den h 20 x = some d' ∧ xs'.all (fits 20) = true ∧ fits 20 d' = true ∧ Q (.int (xs'.countP fun z => eqv z d' : Nat)) h := rfl
theorem f_len : opF .len [x] h Q = ∃ n : Nat, lenD h x = some n ∧ Q (.int n) h := rfl
theorem f_abs : opF .abs [.int i] h Q = Q (.int (if i < 0 then -i else i)) h := rfl
theorem f_int : opF .int [.int i] h Q = Q (.int i) h := rfl
theorem f_tuple : opF .tuple [x] h Q = ∃ xs, seqD h x = some xs ∧ Q (.tup xs) h := rfl
theorem f_list : opF .list [x] h Q = ∃ xs, seqD h x = some xs ∧ ∀ p, h p = none → Q (.ref p) (up h p (.lst xs)) := rfl
theorem f_min : opF .min [.ref a] h Q = ∃ xs m, h a = some (.lst xs) ∧ xs.all (flat 20) = true ∧ (∀ x ∈ xs, ∀ y ∈ xs, alk x y = true) ∧ (∀ x ∈ xs, x ≠ .non) ∧ minL xs = some m ∧ Q m h := rfl
theorem f_all : opF .all [.ref a] h Q = ∃ bs : List Bool, h a = some (.lst (bs.map .bl)) ∧ Q (.bl (bs.all id)) h := rfl
theorem f_any : opF .any [.ref a] h Q = ∃ bs : List Bool, h a = some (.lst (bs.map .bl)) ∧ Q (.bl (bs.any id)) h := rfl
theorem f_isi {t : Ty} : opF (.isi t) [x] h Q = ∃ u, tyD h x = some u ∧ Q (.bl (isiB u t)) h := rfl
theorem m_append : opM .append (.ref a) [x] h Q = ∃ xs, h a = some (.lst xs) ∧ xs.length < sz ∧ Q .non (up h a (.lst (xs ++ [x]))) := rfl
theorem m_extend : opM .extend (.ref a) [.ref c] h Q = ∃ xs ys, h a = some (.lst xs) ∧ h c = some (.lst ys) ∧ xs.length + ys.length ≤ sz ∧ Q .non (up h a (.lst (xs ++ ys))) := rfl
theorem m_update : opM .update (.ref a) [.ref c] h Q = ∃ ks ls, a ≠ c ∧ h a = some (.dct ks) ∧ h c = some (.dct ls) ∧ ks.length + ls.length ≤ sz ∧ Q .non (up h a (.dct (ls.foldl (fun acc p => stor acc p.1 p.2) ks))) := rfl
theorem sl_tup {lo hi : Option Int} : opSl (.tup xs) lo hi h Q = Q (.tup (cutD xs lo hi)) h := rfl
theorem sl_frz {lo hi : Option Int} : opSl (.lst xs) lo hi h Q = ∀ p, h p = none → Q (.ref p) (up h p (.lst (cutD xs lo hi))) := rfl
theorem o_eqI : opC .eq (.int i) (.int j) h Q = Q (.bl (decide (i = j))) h := by
  rw [o_eq]
  refine propext ⟨fun ⟨x', y', e1, e2, _, _, q⟩ => ?_, fun q => ⟨.int i, .int j, rfl, rfl, rfl, rfl, ?_⟩⟩
  · cases e1; cases e2
    have : eqv (.int i) (.int j) = decide (i = j) := by show (i == j) = _; rfl
    rwa [this] at q
  · exact q
theorem o_neI : opC .ne (.int i) (.int j) h Q = Q (.bl (!decide (i = j))) h := by
  rw [o_ne]
  refine propext ⟨fun ⟨x', y', e1, e2, _, _, q⟩ => ?_, fun q => ⟨.int i, .int j, rfl, rfl, rfl, rfl, ?_⟩⟩
  · cases e1; cases e2
    exact q
  · exact q
theorem o_eqS {s t : List Nat} (a : okStr s = true) (b : okStr t = true) : opC .eq (.str s) (.str t) h Q = Q (.bl (s == t)) h := by
  rw [o_eq]
  refine propext ⟨fun ⟨x', y', e1, e2, _, _, q⟩ => ?_, fun q => ⟨.str s, .str t, rfl, rfl, a, b, ?_⟩⟩
  · cases e1; cases e2
    exact q
  · exact q
theorem asInt_int {P : Int → Prop} : asInt (.int i) P = P i := rfl
theorem ty_append : ML.append.ty = .list := rfl
theorem ty_extend : ML.extend.ty = .list := rfl
theorem ty_update : ML.update.ty = .dict := rfl
theorem ty_count : ML.count.ty = .list := rfl
theorem ty_index : ML.index.ty = .list := rfl
end
theorem GOk_nil (h : Hh) : GOk [] h := fun _ z => absurd z List.not_mem_nil
theorem ExtB.upF {a p : Nat} {h h1 : Hh} {c : Cell} (x : ∀ b c, b ≠ a → h b = some c → h1 b = some c) (e : h p = none) : ∀ b d, b ≠ a → h b = some d → Mp.up h1 p c b = some d := fun b d n q => by
  have n2 : b ≠ p := by rintro rfl; rw [e] at q; cases q
  rw [up_ne n2]; exact x b d n q
theorem tg_name {i : Nat} {x : D} {σ : En} {k : En → Prop} : wpTg (.name i) x σ k = k (σ.set i (some x)) := rfl
theorem tg_nil {σ : En} {k : En → Prop} : wpTg .nil (.tup []) σ k = k σ := by rw [wpTg]; simp
theorem tg_cons {t r : Tg} {y : D} {ys : List D} {σ : En} {k : En → Prop} : wpTg (.cons t r) (.tup (y :: ys)) σ k = wpTg t y σ fun σ1 => wpTg r (.tup ys) σ1 k := by
  rw [wpTg]
  refine propext ⟨fun ⟨z, zs, e, q⟩ => by cases e; exact q, fun q => ⟨y, ys, rfl, q⟩⟩
/-! ### loops -/
theorem itr_inv {g : List (Nat × List D)} {turn : D → En → Hh → (En → Hh → Prop) → Prop} {fin : En → Hh → Prop} (I : Nat → En → Hh → Prop) {items : List D} (hg : ∀ i σ h, I i σ h → GOk g h)
    (hs : ∀ i x σ h (k : En → Hh → Prop), items[i]? = some x → I i σ h → (∀ σ' h', I (i + 1) σ' h' → k σ' h') → turn x σ h k) (hd : ∀ σ h, I items.length σ h → fin σ h) {σ : En} {h : Hh} (h0 : I 0 σ h) : itr g turn fin items σ h := by
  have key : ∀ (n i : Nat) (σ : En) (h : Hh), items.length - i = n → i ≤ items.length → I i σ h → itr g turn fin (items.drop i) σ h := by
    intro n
    induction n with
    | zero =>
      intro i σ h e l hi
      have : i = items.length := by omega
      subst this
      rw [List.drop_length]
      exact ⟨hg _ _ _ hi, hd _ _ hi⟩
    | succ n ih =>
      intro i σ h e l hi
      have lt : i < items.length := by omega
      rw [List.drop_eq_getElem_cons lt]
      exact ⟨hg _ _ _ hi, hs i _ σ h _ (List.getElem?_eq_getElem lt) hi fun σ' h' q => ih (i + 1) σ' h' (by omega) lt q⟩
  have := key items.length 0 σ h rfl (Nat.zero_le _) h0
  rwa [List.drop_zero] at this
theorem whl_inv {c : En → Hh → (Bool → Hh → Prop) → Prop} {b : En → Hh → (En → Hh → Prop) → Prop} {fin : En → Hh → Prop} (I : Nat → En → Hh → Prop)
    (hs : ∀ m σ h (k : En → Hh → Prop), I m σ h → (∀ m' σ' h', m' < m → I m' σ' h' → k σ' h') → c σ h fun t h1 => if t = true then b σ h1 k else fin σ h1) {m : Nat} {σ : En} {h : Hh} (h0 : I m σ h) : ∃ n, whl c b fin n σ h := by
  have key : ∀ n m σ h, I m σ h → m < n → whl c b fin n σ h := by
    intro n
    induction n with
    | zero => intro m σ h _ l; exact absurd l (Nat.not_lt_zero _)
    | succ n ih =>
      intro m σ h hi l
      exact hs m σ h _ hi fun m' σ' h' l' q => ih m' σ' h' q (by omega)
  exact ⟨m + 1, key _ m σ h h0 (Nat.lt_succ_self _)⟩
/-- a list comprehension of plain elements -/
theorem lc_fm {h : Hh} {p : Nat} (hp : h p = none) {items : List D} (hl : items.length ≤ 1000000) {g : List (Nat × List D)} {turn : D → En → Hh → (En → Hh → Prop) → Prop} {fin : En → Hh → Prop} {σ : En} (f : D → Option D) (hg : ∀ h', Ext h h' → GOk g h')
    (step : ∀ x h' (k : En → Hh → Prop), x ∈ items → Ext h h' → (∀ h4, Ext h' h4 → match f x with
      | some y => ∃ acc, h4 p = some (.lst acc) ∧ acc.length < sz ∧ k σ (up h4 p (.lst (acc ++ [y])))
      | none => k σ h4) → turn x σ h' k)
    (hfin : ∀ h', Ext h h' → h' p = some (.lst (items.filterMap f)) → fin σ h') : itr g turn fin items σ (up h p (.lst [])) := by
  refine itr_inv (fun i σ' h' => σ' = σ ∧ Ext h h' ∧ i ≤ items.length ∧ h' p = some (.lst ((items.take i).filterMap f))) (fun _ _ h q => hg h q.2.1) ?_ ?_ ⟨rfl, .up hp, Nat.zero_le _, up_same⟩
  · rintro i x σ' h' k hx ⟨rfl, e, hi, hp'⟩ hk
    have hlt := (List.getElem?_eq_some_iff.mp hx).1
    have ht : items.take (i + 1) = items.take i ++ [x] := by rw [List.take_add_one, hx]; rfl
    refine step x h' k (List.mem_of_getElem? hx) e fun h4 e4 => ?_
    cases q : f x with
    | some y =>
      refine ⟨_, e4 _ _ hp', ?_, hk _ _ ⟨rfl, (e.trans e4).wr hp, hlt, ?_⟩⟩
      · exact Nat.lt_of_le_of_lt (List.length_filterMap_le ..) (szl (by rw [List.length_take]; omega))
      · rw [up_same, ht, List.filterMap_append]
        simp [q]
    | none =>
      refine hk _ _ ⟨rfl, e.trans e4, hlt, ?_⟩
      rw [e4 _ _ hp', ht, List.filterMap_append]
      simp [q]
  · rintro σ' h' ⟨rfl, e, hi, hp'⟩
    rw [List.take_length] at hp'
    exact hfin h' e hp'
theorem lc_map {h : Hh} {p : Nat} (hp : h p = none) {items : List D} (hl : items.length ≤ 1000000) {g : List (Nat × List D)} {turn : D → En → Hh → (En → Hh → Prop) → Prop} {fin : En → Hh → Prop} {σ : En} (f : D → D) (hg : ∀ h', Ext h h' → GOk g h')
    (step : ∀ x h' (k : En → Hh → Prop), x ∈ items → Ext h h' → (∀ h4, Ext h' h4 → ∃ acc, h4 p = some (.lst acc) ∧ acc.length < sz ∧ k σ (up h4 p (.lst (acc ++ [f x])))) → turn x σ h' k)
    (hfin : ∀ h', Ext h h' → h' p = some (.lst (items.map f)) → fin σ h') : itr g turn fin items σ (up h p (.lst [])) :=
  lc_fm hp hl (fun x => some (f x)) hg step fun h' e q => hfin h' e (by rw [q]; simp)
/-! ### plain data: equality is equality -/
def pl : Nat → D → Bool
  | _, .non => true
  | _, .int _ => true
  | _, .str x => okStr x
  | n + 1, .tup xs => xs.all (pl n)
  | _, _ => false
theorem pl_flat : ∀ (n : Nat) (x : D), pl n x = true → flat n x = true
  | n, .non, _ => by cases n <;> rfl
  | n, .int _, _ => by cases n <;> rfl
  | n, .str x, e => by cases n <;> exact e
  | n + 1, .tup xs, e => by
    show xs.all (flat n) = true
    have e : xs.all (pl n) = true := e
    exact List.all_eq_true.mpr fun y hy => pl_flat n y (List.all_eq_true.mp e y hy)
  | 0, .tup xs, e => by cases e
  | n, .bl _, e => by cases n <;> cases e
  | n, .lst _, e => by cases n <;> cases e
  | n, .ref _, e => by cases n <;> cases e
theorem eqvAll_iff {f : D → Bool} (hf : ∀ x y, f x = true → f y = true → (eqv x y = true ↔ x = y)) : ∀ xs ys : List D, xs.all f = true → ys.all f = true → (eqvAll xs ys = true ↔ xs = ys)
  | [], [], _, _ => by simp [eqvAll]
  | [], _ :: _, _, _ => by simp [eqvAll]
  | _ :: _, [], _, _ => by simp [eqvAll]
  | x :: xs, y :: ys, a, b => by
    rw [List.all_cons, Bool.and_eq_true] at a b
    show (eqv x y && eqvAll xs ys) = true ↔ _
    rw [Bool.and_eq_true, hf x y a.1 b.1, eqvAll_iff hf xs ys a.2 b.2, List.cons.injEq]
theorem eqv_iff : ∀ (n : Nat) (x y : D), pl n x = true → pl n y = true → (eqv x y = true ↔ x = y) := by
  intro n
  induction n with
  | zero =>
    intro x y a b
    cases x <;> cases y <;> first | (cases a; done) | (cases b; done) | simp [eqv]
  | succ n ih =>
    intro x y a b
    cases x with
    | tup xs =>
      cases y with
      | tup ys =>
        show eqvAll xs ys = true ↔ _
        rw [eqvAll_iff ih xs ys a b, D.tup.injEq]
      | bl _ => cases b
      | lst _ => cases b
      | ref _ => cases b
      | _ => simp [eqv]
    | bl _ => cases a
    | lst _ => cases a
    | ref _ => cases a
    | _ => cases y <;> first | (cases b; done) | simp [eqv]
open Classical in
theorem eqv_dec {x y : D} (a : pl 20 x = true) (b : pl 20 y = true) : eqv x y = decide (x = y) := by
  by_cases e : x = y
  · rw [(eqv_iff 20 x y a b).mpr e]; simp [e]
  · cases q : eqv x y with
    | true => exact absurd ((eqv_iff 20 x y a b).mp q) e
    | false => simp [e]
theorem den_pl {h : Hh} {x : D} (a : pl 20 x = true) : den h 20 x = some x := den_flat 20 x (pl_flat 20 x a)
theorem fits_pl {x : D} (a : pl 20 x = true) : fits 20 x = true := fits_flat 20 x (pl_flat 20 x a)
open Classical in
theorem o_eqP {x y : D} {h : Hh} {Q : PV} (a : pl 20 x = true) (b : pl 20 y = true) : opC .eq x y h Q = Q (.bl (decide (x = y))) h := by
  rw [o_eq]
  refine propext ⟨fun ⟨x', y', e1, e2, _, _, q⟩ => ?_, fun q => ⟨x, y, den_pl a, den_pl b, fits_pl a, fits_pl b, ?_⟩⟩
  · rw [den_pl a] at e1; rw [den_pl b] at e2; cases e1; cases e2
    rwa [eqv_dec a b] at q
  · rwa [eqv_dec a b]
open Classical in
theorem o_neP {x y : D} {h : Hh} {Q : PV} (a : pl 20 x = true) (b : pl 20 y = true) : opC .ne x y h Q = Q (.bl (!decide (x = y))) h := by
  rw [o_ne]
  refine propext ⟨fun ⟨x', y', e1, e2, _, _, q⟩ => ?_, fun q => ⟨x, y, den_pl a, den_pl b, fits_pl a, fits_pl b, ?_⟩⟩
  · rw [den_pl a] at e1; rw [den_pl b] at e2; cases e1; cases e2
    rwa [eqv_dec a b] at q
  · rwa [eqv_dec a b]
open Classical in
theorem any_dec {x : D} {xs : List D} (a : pl 20 x = true) (b : xs.all (pl 20) = true) : (xs.any fun z => eqv z x) = decide (x ∈ xs) := by
  induction xs with
  | nil => simp
  | cons y ys ih =>
    rw [List.all_cons, Bool.and_eq_true] at b
    rw [List.any_cons, ih b.2, eqv_dec b.1 a]
    by_cases e : y = x
    · simp [e]
    · simp [e, Ne.symm e]
open Classical in
theorem mem_P {x : D} {xs : List D} {g : Nat} {h : Hh} {P : Bool → Prop} (e : h g = some (.lst xs)) (a : pl 20 x = true) (b : xs.all (pl 20) = true) : memD h x (.ref g) P = P (decide (x ∈ xs)) := by
  have b2 : xs.mapM (den h 20) = some xs := mapM_id fun y hy => den_pl (List.all_eq_true.mp b y hy)
  have b3 : xs.all (fits 20) = true := List.all_eq_true.mpr fun y hy => fits_pl (List.all_eq_true.mp b y hy)
  rw [mem_lst e]
  refine propext ⟨fun ⟨x', xs', e1, e2, _, _, q⟩ => ?_, fun q => ⟨x, xs, den_pl a, b2, fits_pl a, b3, ?_⟩⟩
  · rw [den_pl a] at e1; rw [b2] at e2; cases e1; cases e2
    rwa [any_dec a b] at q
  · rwa [any_dec a b]
theorem pl_int (n : Nat) (i : Int) : pl n (.int i) = true := by cases n <;> rfl
theorem pl_ints (n : Nat) (gs : List Nat) : (gs.map fun n : Nat => D.int n).all (pl n) = true := by
  rw [List.all_map]
  exact List.all_eq_true.mpr fun x _ => pl_int n _
/-- in a list of ints -/
theorem mem_ints {h : Hh} {g : Nat} {gs : List Nat} {s : Nat} {P : Bool → Prop} (e : h g = some (.lst (gs.map fun n : Nat => .int n))) : memD h (.int s) (.ref g) P = P (decide (s ∈ gs)) := by
  rw [mem_P e (pl_int _ _) (pl_ints _ _)]
  congr 1
  rw [decide_eq_decide]
  constructor
  · intro h
    obtain ⟨n, h1, h2⟩ := List.mem_map.mp h
    have : n = s := by injection h2 with h2; omega
    exact this ▸ h1
  · exact fun h => List.mem_map.mpr ⟨s, h, rfl⟩
theorem m_countP {h : Hh} {Q : PV} {x : D} {xs : List D} {a : Nat} (e : h a = some (.lst xs)) (f : xs.all (pl 20) = true) (g : pl 20 x = true) (q : Q (.int (xs.countP fun z => eqv z x : Nat)) h) : opM .count (.ref a) [x] h Q :=
  ⟨xs, xs, x, e, mapM_id fun y hy => den_flat 20 y (pl_flat 20 y (List.all_eq_true.mp f y hy)), den_flat 20 x (pl_flat 20 x g), List.all_eq_true.mpr fun y hy => fits_flat 20 y (pl_flat 20 y (List.all_eq_true.mp f y hy)), fits_flat 20 x (pl_flat 20 x g), q⟩
end Mp
/-! The wp functions sealed: equal to them, but nothing unfolds them. Printed by mkseal.py. -/
namespace Mp
structure Wp where
  e : E → En → Hh → PX → PV → Prop
  o : Op → En → Hh → PX → (Option Int → Hh → Prop) → Prop
  c : Op → En → Hh → PX → (Bool → Hh → Prop) → Prop
  a : As → En → Hh → PX → (List D → Hh → Prop) → Prop
  i : It → En → Hh → PX → (List D → List (Nat × List D) → Hh → Prop) → Prop
  s : S → En → Hh → PX → Po → Prop
  b : B → En → Hh → PX → Po → Prop
  f : Fn → List D → Hh → PX → PV → Prop
theorem wp_is : ∃ w : Wp, w = ⟨wpE, wpO, wpC, wpA, wpI, wpS, wpB, wpF⟩ := ⟨_, rfl⟩
noncomputable def wpW : Wp := Classical.choose wp_is
theorem wpW_eq : wpW = ⟨wpE, wpO, wpC, wpA, wpI, wpS, wpB, wpF⟩ := Classical.choose_spec wp_is
noncomputable def vE := wpW.e
theorem vE_eq : vE = wpE := by unfold vE; rw [wpW_eq]
noncomputable def vO := wpW.o
theorem vO_eq : vO = wpO := by unfold vO; rw [wpW_eq]
noncomputable def vC := wpW.c
theorem vC_eq : vC = wpC := by unfold vC; rw [wpW_eq]
noncomputable def vA := wpW.a
theorem vA_eq : vA = wpA := by unfold vA; rw [wpW_eq]
noncomputable def vI := wpW.i
theorem vI_eq : vI = wpI := by unfold vI; rw [wpW_eq]
noncomputable def vS := wpW.s
theorem vS_eq : vS = wpS := by unfold vS; rw [wpW_eq]
noncomputable def vB := wpW.b
theorem vB_eq : vB = wpB := by unfold vB; rw [wpW_eq]
noncomputable def vF := wpW.f
theorem vF_eq : vF = wpF := by unfold vF; rw [wpW_eq]
theorem vF_of {F : Fn} {xs : List D} {h : Hh} {X : PX} {Q : PV} (p : wpF F xs h X Q) : vF F xs h X Q := by rw [vF_eq]; exact p
theorem vF_to {F : Fn} {xs : List D} {h : Hh} {X : PX} {Q : PV} (p : vF F xs h X Q) : wpF F xs h X Q := by rw [vF_eq] at p; exact p
theorem vB_of {b : B} {σ : En} {h : Hh} {X : PX} {P : Po} (p : wpB b σ h X P) : vB b σ h X P := by rw [vB_eq]; exact p
theorem vB_to {b : B} {σ : En} {h : Hh} {X : PX} {P : Po} (p : vB b σ h X P) : wpB b σ h X P := by rw [vB_eq] at p; exact p
def eachK (d : D) (h : Hh) (Q : List D → List (Nat × List D) → Hh → Prop) : Prop := match d with
  | .tup xs => Q xs [] h
  | .ref a => ∃ xs, (h a = some (.lst xs) ∨ h a = some (.rol xs)) ∧ Q xs [(a, xs)] h
  | _ => False
def enumK (d : D) (h : Hh) (Q : List D → List (Nat × List D) → Hh → Prop) : Prop := match d with
  | .tup xs => Q (xs.mapIdx fun i x => .tup [.int i, x]) [] h
  | .ref a => ∃ xs, (h a = some (.lst xs) ∨ h a = some (.rol xs)) ∧ Q (xs.mapIdx fun i x => .tup [.int i, x]) [(a, xs)] h
  | _ => False
def zipK (d d2 : D) (h2 : Hh) (Q : List D → List (Nat × List D) → Hh → Prop) : Prop := match d, d2 with
  | .tup xs, .tup ys => Q (List.zipWith (fun x y => .tup [x, y]) xs ys) [] h2
  | .ref p, .ref q => ∃ xs ys, (h2 p = some (.lst xs) ∨ h2 p = some (.rol xs)) ∧ (h2 q = some (.lst ys) ∨ h2 q = some (.rol ys)) ∧ Q (List.zipWith (fun x y => .tup [x, y]) xs ys) [(p, xs), (q, ys)] h2
  | _, _ => False
def setK (x y d : D) (h3 : Hh) (Q : Hh → Prop) : Prop := match x with
  | .ref a => match h3 a with
    | some (.lst xs) => asInt y fun k => ∃ j, L2.ixN xs.length k = some j ∧ Q (up h3 a (.lst (xs.set j d)))
    | some (.dct kvs) => isKey y = true ∧ kvs.length < sz ∧ Q (up h3 a (.dct (stor kvs y d)))
    | some (.dcT kvs) => isKeyT y = true ∧ kvs.length < sz ∧ Q (up h3 a (.dcT (stor kvs y d)))
    | _ => False
  | _ => False
def augK (op : BOp) (x y : D) (Q : D → Prop) : Prop := match op, x, y with
  | .add, .int a, .int b => Q (.int (a + b))
  | .sub, .int a, .int b => Q (.int (a - b))
  | _, _, _ => False
theorem each_tup {xs : List D} {h : Hh} {Q : List D → List (Nat × List D) → Hh → Prop} : eachK (.tup xs) h Q = Q xs [] h := rfl
theorem each_ref {a : Nat} {h : Hh} {Q : List D → List (Nat × List D) → Hh → Prop} : eachK (.ref a) h Q = ∃ xs, (h a = some (.lst xs) ∨ h a = some (.rol xs)) ∧ Q xs [(a, xs)] h := rfl
theorem enum_tup {xs : List D} {h : Hh} {Q : List D → List (Nat × List D) → Hh → Prop} : enumK (.tup xs) h Q = Q (xs.mapIdx fun i x => .tup [.int i, x]) [] h := rfl
theorem enum_ref {a : Nat} {h : Hh} {Q : List D → List (Nat × List D) → Hh → Prop} : enumK (.ref a) h Q = ∃ xs, (h a = some (.lst xs) ∨ h a = some (.rol xs)) ∧ Q (xs.mapIdx fun i x => .tup [.int i, x]) [(a, xs)] h := rfl
theorem zip_tup {xs ys : List D} {h : Hh} {Q : List D → List (Nat × List D) → Hh → Prop} : zipK (.tup xs) (.tup ys) h Q = Q (List.zipWith (fun x y => .tup [x, y]) xs ys) [] h := rfl
theorem zip_ref {p q : Nat} {h : Hh} {Q : List D → List (Nat × List D) → Hh → Prop} : zipK (.ref p) (.ref q) h Q = ∃ xs ys, (h p = some (.lst xs) ∨ h p = some (.rol xs)) ∧ (h q = some (.lst ys) ∨ h q = some (.rol ys)) ∧ Q (List.zipWith (fun x y => .tup [x, y]) xs ys) [(p, xs), (q, ys)] h := rfl
theorem set_lst {a : Nat} {k : Int} {d : D} {h : Hh} {Q : Hh → Prop} {xs : List D} (e : h a = some (.lst xs)) : setK (.ref a) (.int k) d h Q = ∃ j, L2.ixN xs.length k = some j ∧ Q (up h a (.lst (xs.set j d))) := by
  unfold setK
  simp only [e, asInt_int]
theorem set_dct {a : Nat} {k d : D} {h : Hh} {Q : Hh → Prop} {kvs : List (D × D)} (e : h a = some (.dct kvs)) : setK (.ref a) k d h Q = (isKey k = true ∧ kvs.length < sz ∧ Q (up h a (.dct (stor kvs k d)))) := by
  unfold setK
  simp only [e]
theorem set_dcT {a : Nat} {k d : D} {h : Hh} {Q : Hh → Prop} {kvs : List (D × D)} (e : h a = some (.dcT kvs)) : setK (.ref a) k d h Q = (isKeyT k = true ∧ kvs.length < sz ∧ Q (up h a (.dcT (stor kvs k d)))) := by
  unfold setK
  simp only [e]
theorem aug_add {a b : Int} {Q : D → Prop} : augK .add (.int a) (.int b) Q = Q (.int (a + b)) := rfl
theorem aug_sub {a b : Int} {Q : D → Prop} : augK .sub (.int a) (.int b) Q = Q (.int (a - b)) := rfl

theorem vE_lit {l : Lit} {σ : En} {h : Hh} {X : PX} {Q : PV} : vE (.lit l) σ h X Q = (Q l.d h) := by simp only [vE_eq, vO_eq, vC_eq, vA_eq, vI_eq, vS_eq, vB_eq, vF_eq]; rfl
theorem vE_var {i : Nat} {σ : En} {h : Hh} {X : PX} {Q : PV} : vE (.var i) σ h X Q = (∃ d, σ[i]? = some (some d) ∧ Q d h) := by simp only [vE_eq, vO_eq, vC_eq, vA_eq, vI_eq, vS_eq, vB_eq, vF_eq]; rfl
theorem vE_bin {op : BOp} {a : E} {b : E} {σ : En} {h : Hh} {X : PX} {Q : PV} : vE (.bin op a b) σ h X Q = (vE a σ h X fun x h1 => vE b σ h1 X fun y h2 => opB op x y h2 Q) := by simp only [vE_eq, vO_eq, vC_eq, vA_eq, vI_eq, vS_eq, vB_eq, vF_eq]; rfl
theorem vE_neg {a : E} {σ : En} {h : Hh} {X : PX} {Q : PV} : vE (.neg a) σ h X Q = (vE a σ h X fun x h1 => asInt x fun i => Q (.int (-i)) h1) := by simp only [vE_eq, vO_eq, vC_eq, vA_eq, vI_eq, vS_eq, vB_eq, vF_eq]; rfl
theorem vE_not {a : E} {σ : En} {h : Hh} {X : PX} {Q : PV} : vE (.not a) σ h X Q = (vE a σ h X fun x h1 => ∃ t, truth h1 x = some t ∧ Q (.bl (!t)) h1) := by simp only [vE_eq, vO_eq, vC_eq, vA_eq, vI_eq, vS_eq, vB_eq, vF_eq]; rfl
theorem vE_and {a : E} {b : E} {σ : En} {h : Hh} {X : PX} {Q : PV} : vE (.and a b) σ h X Q = (vE a σ h X fun x h1 => ∃ t, truth h1 x = some t ∧ if t = true then vE b σ h1 X Q else Q x h1) := by simp only [vE_eq, vO_eq, vC_eq, vA_eq, vI_eq, vS_eq, vB_eq, vF_eq]; rfl
theorem vE_or {a : E} {b : E} {σ : En} {h : Hh} {X : PX} {Q : PV} : vE (.or a b) σ h X Q = (vE a σ h X fun x h1 => ∃ t, truth h1 x = some t ∧ if t = true then Q x h1 else vE b σ h1 X Q) := by simp only [vE_eq, vO_eq, vC_eq, vA_eq, vI_eq, vS_eq, vB_eq, vF_eq]; rfl
theorem vE_cmp {op : COp} {a : E} {b : E} {σ : En} {h : Hh} {X : PX} {Q : PV} : vE (.cmp op a b) σ h X Q = (vE a σ h X fun x h1 => vE b σ h1 X fun y h2 => opC op x y h2 Q) := by simp only [vE_eq, vO_eq, vC_eq, vA_eq, vI_eq, vS_eq, vB_eq, vF_eq]; rfl
theorem vE_chain {op : COp} {op2 : COp} {a : E} {b : E} {c : E} {σ : En} {h : Hh} {X : PX} {Q : PV} : vE (.chain op op2 a b c) σ h X Q = (vE a σ h X fun x h1 => vE b σ h1 X fun y h2 => opC op x y h2 fun z h3 => ∃ t, z = .bl t ∧
      if t = true then vE c σ h3 X fun w h4 => opC op2 y w h4 Q else Q (.bl false) h3) := by simp only [vE_eq, vO_eq, vC_eq, vA_eq, vI_eq, vS_eq, vB_eq, vF_eq]; rfl
theorem vE_ite {c : E} {a : E} {b : E} {σ : En} {h : Hh} {X : PX} {Q : PV} : vE (.ite c a b) σ h X Q = (vE c σ h X fun x h1 => ∃ t, truth h1 x = some t ∧ if t = true then vE a σ h1 X Q else vE b σ h1 X Q) := by simp only [vE_eq, vO_eq, vC_eq, vA_eq, vI_eq, vS_eq, vB_eq, vF_eq]; rfl
theorem vE_tup {es : As} {σ : En} {h : Hh} {X : PX} {Q : PV} : vE (.tup es) σ h X Q = (vA es σ h X fun xs h1 => xs.length ≤ sz ∧ Q (.tup xs) h1) := by simp only [vE_eq, vO_eq, vC_eq, vA_eq, vI_eq, vS_eq, vB_eq, vF_eq]; rfl
theorem vE_lst {es : As} {σ : En} {h : Hh} {X : PX} {Q : PV} : vE (.lst es) σ h X Q = (vA es σ h X fun xs h1 => xs.length ≤ sz ∧ ∀ p, h1 p = none → Q (.ref p) (up h1 p (.lst xs))) := by simp only [vE_eq, vO_eq, vC_eq, vA_eq, vI_eq, vS_eq, vB_eq, vF_eq]; rfl
theorem vE_dnew  {σ : En} {h : Hh} {X : PX} {Q : PV} : vE .dnew σ h X Q = (∀ p, h p = none → Q (.ref p) (up h p (.dct []))) := by simp only [vE_eq, vO_eq, vC_eq, vA_eq, vI_eq, vS_eq, vB_eq, vF_eq]; rfl
theorem vE_dnewT  {σ : En} {h : Hh} {X : PX} {Q : PV} : vE .dnewT σ h X Q = (∀ p, h p = none → Q (.ref p) (up h p (.dcT []))) := by simp only [vE_eq, vO_eq, vC_eq, vA_eq, vI_eq, vS_eq, vB_eq, vF_eq]; rfl
theorem vE_ddisT {k : E} {v : E} {σ : En} {h : Hh} {X : PX} {Q : PV} : vE (.ddisT k v) σ h X Q = (∀ p, h p = none → vE k σ (up h p (.dcT [])) X fun x h1 => vE v σ h1 X fun y h2 => isKeyT x = true ∧ h2 p = some (.dcT []) ∧ Q (.ref p) (up h2 p (.dcT [(x, y)]))) := by simp only [vE_eq, vO_eq, vC_eq, vA_eq, vI_eq, vS_eq, vB_eq, vF_eq]; rfl
theorem vE_dget {o : E} {k : E} {d : As} {σ : En} {h : Hh} {X : PX} {Q : PV} : vE (.dget o k d) σ h X Q = (vE o σ h X fun x h1 => isDct h1 x = true ∧ vE k σ h1 X fun y h2 => vA d σ h2 X fun zs h3 => getD x y zs h3 Q) := by simp only [vE_eq, vO_eq, vC_eq, vA_eq, vI_eq, vS_eq, vB_eq, vF_eq]; rfl
theorem vE_fld {c : PySem.Str} {o : E} {f : PySem.Str} {σ : En} {h : Hh} {X : PX} {Q : PV} : vE (.fld c o f) σ h X Q = (vE o σ h X fun x h1 => ∃ a fs d, x = .ref a ∧ h1 a = some (.obj c fs) ∧ fs.lookup f = some d ∧ Q d h1) := by simp only [vE_eq, vO_eq, vC_eq, vA_eq, vI_eq, vS_eq, vB_eq, vF_eq]; rfl
theorem vE_new {c : PySem.Str} {F : Fn} {es : As} {σ : En} {h : Hh} {X : PX} {Q : PV} : vE (.new c F es) σ h X Q = (vA es σ h X fun xs h1 => ∀ p, h1 p = none → vF F (.ref p :: xs) (up h1 p (.obj c [])) X fun v h2 => v = .non ∧ Q (.ref p) h2) := by simp only [vE_eq, vO_eq, vC_eq, vA_eq, vI_eq, vS_eq, vB_eq, vF_eq]; rfl
theorem vE_mcall {c : PySem.Str} {m : PySem.Str} {F : Fn} {o : E} {es : As} {σ : En} {h : Hh} {X : PX} {Q : PV} : vE (.mcall c m F o es) σ h X Q = (vE o σ h X fun x h1 => ∃ a fs, x = .ref a ∧ h1 a = some (.obj c fs) ∧ fs.lookup m = none ∧ vA es σ h1 X fun xs h2 => vF F (x :: xs) h2 X Q) := by simp only [vE_eq, vO_eq, vC_eq, vA_eq, vI_eq, vS_eq, vB_eq, vF_eq]; rfl
theorem vE_idx {a : E} {i : E} {σ : En} {h : Hh} {X : PX} {Q : PV} : vE (.idx a i) σ h X Q = (vE a σ h X fun x h1 => vE i σ h1 X fun y h2 => opIx x y h2 Q) := by simp only [vE_eq, vO_eq, vC_eq, vA_eq, vI_eq, vS_eq, vB_eq, vF_eq]; rfl
theorem vE_slc {a : E} {lo : Op} {hi : Op} {σ : En} {h : Hh} {X : PX} {Q : PV} : vE (.slc a lo hi) σ h X Q = (vE a σ h X fun x h1 => vO lo σ h1 X fun l h2 => vO hi σ h2 X fun u h3 => opSl x l u h3 Q) := by simp only [vE_eq, vO_eq, vC_eq, vA_eq, vI_eq, vS_eq, vB_eq, vF_eq]; rfl
theorem vE_call {x : String} {F : Fn} {es : As} {σ : En} {h : Hh} {X : PX} {Q : PV} : vE (.call x F es) σ h X Q = (vA es σ h X fun xs h1 => vF F xs h1 X Q) := by simp only [vE_eq, vO_eq, vC_eq, vA_eq, vI_eq, vS_eq, vB_eq, vF_eq]; rfl
theorem vE_bf {f : BF} {es : As} {σ : En} {h : Hh} {X : PX} {Q : PV} : vE (.bf f es) σ h X Q = (vA es σ h X fun xs h1 => opF f xs h1 Q) := by simp only [vE_eq, vO_eq, vC_eq, vA_eq, vI_eq, vS_eq, vB_eq, vF_eq]; rfl
theorem vE_meth {m : ML} {o : E} {es : As} {σ : En} {h : Hh} {X : PX} {Q : PV} : vE (.meth m o es) σ h X Q = (vE o σ h X fun x h1 => tyD h1 x = some m.ty ∧ vA es σ h1 X fun xs h2 => opM m x xs h2 Q) := by simp only [vE_eq, vO_eq, vC_eq, vA_eq, vI_eq, vS_eq, vB_eq, vF_eq]; rfl
theorem vE_comp {own : (List Nat)} {t : Tg} {it : It} {c : Op} {e : E} {σ : En} {h : Hh} {X : PX} {Q : PV} : vE (.comp own t it c e) σ h X Q = (vI it σ h X fun items g h1 => ∀ p, h1 p = none →
      itr g (fun x _ h2 k => wpTg t x (wipeD σ own) fun σ1 => vC c σ1 h2 (fun _ _ => False) fun b h3 =>
        if b = true then vE e σ1 h3 (fun _ _ => False) fun y h4 => ∃ acc, h4 p = some (.lst acc) ∧ acc.length < sz ∧ k σ (up h4 p (.lst (acc ++ [y]))) else k σ h3)
        (fun _ h2 => Q (.ref p) h2) items σ (up h1 p (.lst []))) := by simp only [vE_eq, vO_eq, vC_eq, vA_eq, vI_eq, vS_eq, vB_eq, vF_eq]; rfl
theorem vE_dcomp {own : (List Nat)} {t : Tg} {it : It} {c : Op} {ke : E} {ve : E} {σ : En} {h : Hh} {X : PX} {Q : PV} : vE (.dcomp own t it c ke ve) σ h X Q = (vI it σ h X fun items g h1 => ∀ p, h1 p = none →
      itr g (fun x _ h2 k => wpTg t x (wipeD σ own) fun σ1 => vC c σ1 h2 (fun _ _ => False) fun b h3 =>
        if b = true then vE ke σ1 h3 (fun _ _ => False) fun y h4 => vE ve σ1 h4 (fun _ _ => False) fun z h5 => ∃ acc, h5 p = some (.dct acc) ∧ isKey y = true ∧ acc.length < sz ∧ k σ (up h5 p (.dct (stor acc y z))) else k σ h3)
        (fun _ h2 => Q (.ref p) h2) items σ (up h1 p (.dct []))) := by simp only [vE_eq, vO_eq, vC_eq, vA_eq, vI_eq, vS_eq, vB_eq, vF_eq]; rfl
theorem vO_none  {σ : En} {h : Hh} {X : PX} {Q : (Option Int → Hh → Prop)} : vO .none σ h X Q = (Q none h) := by simp only [vE_eq, vO_eq, vC_eq, vA_eq, vI_eq, vS_eq, vB_eq, vF_eq]; rfl
theorem vO_some {e : E} {σ : En} {h : Hh} {X : PX} {Q : (Option Int → Hh → Prop)} : vO (.some e) σ h X Q = (vE e σ h X fun d h1 => asInt d fun i => Q (some i) h1) := by simp only [vE_eq, vO_eq, vC_eq, vA_eq, vI_eq, vS_eq, vB_eq, vF_eq]; rfl
theorem vC_none  {σ : En} {h : Hh} {X : PX} {Q : (Bool → Hh → Prop)} : vC .none σ h X Q = (Q true h) := by simp only [vE_eq, vO_eq, vC_eq, vA_eq, vI_eq, vS_eq, vB_eq, vF_eq]; rfl
theorem vC_some {e : E} {σ : En} {h : Hh} {X : PX} {Q : (Bool → Hh → Prop)} : vC (.some e) σ h X Q = (vE e σ h X fun d h1 => ∃ t, truth h1 d = some t ∧ Q t h1) := by simp only [vE_eq, vO_eq, vC_eq, vA_eq, vI_eq, vS_eq, vB_eq, vF_eq]; rfl
theorem vA_nil  {σ : En} {h : Hh} {X : PX} {Q : (List D → Hh → Prop)} : vA .nil σ h X Q = (Q [] h) := by simp only [vE_eq, vO_eq, vC_eq, vA_eq, vI_eq, vS_eq, vB_eq, vF_eq]; rfl
theorem vA_cons {e : E} {es : As} {σ : En} {h : Hh} {X : PX} {Q : (List D → Hh → Prop)} : vA (.cons e es) σ h X Q = (vE e σ h X fun d h1 => vA es σ h1 X fun ds h2 => Q (d :: ds) h2) := by simp only [vE_eq, vO_eq, vC_eq, vA_eq, vI_eq, vS_eq, vB_eq, vF_eq]; rfl
theorem vI_rng1 {a : E} {σ : En} {h : Hh} {X : PX} {Q : (List D → List (Nat × List D) → Hh → Prop)} : vI (.rng1 a) σ h X Q = (vE a σ h X fun d h1 => asInt d fun j => -(2 ^ 62) ≤ j ∧ j < 2 ^ 62 ∧ Q ((List.range j.toNat).map fun i : Nat => .int i) [] h1) := by simp only [vE_eq, vO_eq, vC_eq, vA_eq, vI_eq, vS_eq, vB_eq, vF_eq]; rfl
theorem vI_rng2 {a : E} {b : E} {σ : En} {h : Hh} {X : PX} {Q : (List D → List (Nat × List D) → Hh → Prop)} : vI (.rng2 a b) σ h X Q = (vE a σ h X fun d h1 => vE b σ h1 X fun d2 h2 => asInt d fun i => asInt d2 fun j =>
      (-(2 ^ 62) ≤ i ∧ i < 2 ^ 62 ∧ -(2 ^ 62) ≤ j ∧ j < 2 ^ 62) ∧ Q ((List.range (j - i).toNat).map fun n : Nat => .int (i + n)) [] h2) := by simp only [vE_eq, vO_eq, vC_eq, vA_eq, vI_eq, vS_eq, vB_eq, vF_eq]; rfl
theorem vS_expr {e : E} {σ : En} {h : Hh} {X : PX} {P : Po} : vS (.expr e) σ h X P = (vE e σ h X fun _ h1 => P.nx σ h1) := by simp only [vE_eq, vO_eq, vC_eq, vA_eq, vI_eq, vS_eq, vB_eq, vF_eq]; rfl
theorem vS_asg {t : Tg} {e : E} {σ : En} {h : Hh} {X : PX} {P : Po} : vS (.asg t e) σ h X P = (vE e σ h X fun d h1 => wpTg t d σ fun σ1 => P.nx σ1 h1) := by simp only [vE_eq, vO_eq, vC_eq, vA_eq, vI_eq, vS_eq, vB_eq, vF_eq]; rfl
theorem vS_par {ts : (List Nat)} {es : As} {σ : En} {h : Hh} {X : PX} {P : Po} : vS (.par ts es) σ h X P = (vA es σ h X fun ds h1 => ds.length = ts.length ∧ P.nx (setAll ts ds σ) h1) := by simp only [vE_eq, vO_eq, vC_eq, vA_eq, vI_eq, vS_eq, vB_eq, vF_eq]; rfl
theorem vS_fset {c : PySem.Str} {o : E} {f : PySem.Str} {e : E} {σ : En} {h : Hh} {X : PX} {P : Po} : vS (.fset c o f e) σ h X P = (vE e σ h X fun d h1 => vE o σ h1 X fun x h2 => ∃ a fs, x = .ref a ∧ h2 a = some (.obj c fs) ∧ fs.length < 1000 ∧ P.nx σ (up h2 a (.obj c (putS f d fs)))) := by simp only [vE_eq, vO_eq, vC_eq, vA_eq, vI_eq, vS_eq, vB_eq, vF_eq]; rfl
theorem vS_ret {e : E} {σ : En} {h : Hh} {X : PX} {P : Po} : vS (.ret e) σ h X P = (vE e σ h X P.rt) := by simp only [vE_eq, vO_eq, vC_eq, vA_eq, vI_eq, vS_eq, vB_eq, vF_eq]; rfl
theorem vS_ifs {c : E} {a : B} {b : B} {σ : En} {h : Hh} {X : PX} {P : Po} : vS (.ifs c a b) σ h X P = (vE c σ h X fun d h1 => ∃ t, truth h1 d = some t ∧ if t = true then vB a σ h1 X P else vB b σ h1 X P) := by simp only [vE_eq, vO_eq, vC_eq, vA_eq, vI_eq, vS_eq, vB_eq, vF_eq]; rfl
theorem vS_whl {c : E} {b : B} {σ : En} {h : Hh} {X : PX} {P : Po} : vS (.whl c b) σ h X P = (∃ n, whl (fun σ h k => vE c σ h X fun d h1 => ∃ t, truth h1 d = some t ∧ k t h1) (fun σ h k => vB b σ h X { P with nx := k, ct := k, bk := P.nx }) P.nx n σ h) := by simp only [vE_eq, vO_eq, vC_eq, vA_eq, vI_eq, vS_eq, vB_eq, vF_eq]; rfl
theorem vS_for {t : Tg} {it : It} {b : B} {σ : En} {h : Hh} {X : PX} {P : Po} : vS (.for_ t it b) σ h X P = (vI it σ h X fun items g h1 => itr g (fun x σ h k => wpTg t x σ fun σ1 => vB b σ1 h X { P with nx := k, ct := k, bk := P.nx }) P.nx items σ h1) := by simp only [vE_eq, vO_eq, vC_eq, vA_eq, vI_eq, vS_eq, vB_eq, vF_eq]; rfl
theorem vS_raise {c : String} {es : As} {σ : En} {h : Hh} {X : PX} {P : Po} : vS (.raise c es) σ h X P = (vA es σ h X fun ds h1 => X ⟨c, ds⟩ h1) := by simp only [vE_eq, vO_eq, vC_eq, vA_eq, vI_eq, vS_eq, vB_eq, vF_eq]; rfl
theorem vS_pass  {σ : En} {h : Hh} {X : PX} {P : Po} : vS .pass σ h X P = (P.nx σ h) := by simp only [vE_eq, vO_eq, vC_eq, vA_eq, vI_eq, vS_eq, vB_eq, vF_eq]; rfl
theorem vS_brk  {σ : En} {h : Hh} {X : PX} {P : Po} : vS .brk σ h X P = (P.bk σ h) := by simp only [vE_eq, vO_eq, vC_eq, vA_eq, vI_eq, vS_eq, vB_eq, vF_eq]; rfl
theorem vS_cont  {σ : En} {h : Hh} {X : PX} {P : Po} : vS .cont σ h X P = (P.ct σ h) := by simp only [vE_eq, vO_eq, vC_eq, vA_eq, vI_eq, vS_eq, vB_eq, vF_eq]; rfl
theorem vB_nil  {σ : En} {h : Hh} {X : PX} {P : Po} : vB .nil σ h X P = (P.nx σ h) := by simp only [vE_eq, vO_eq, vC_eq, vA_eq, vI_eq, vS_eq, vB_eq, vF_eq]; rfl
theorem vB_cons {s : S} {b : B} {σ : En} {h : Hh} {X : PX} {P : Po} : vB (.cons s b) σ h X P = (vS s σ h X { P with nx := fun σ1 h1 => vB b σ1 h1 X P }) := by simp only [vE_eq, vO_eq, vC_eq, vA_eq, vI_eq, vS_eq, vB_eq, vF_eq]; rfl
theorem vI_each {e : E} {σ : En} {h : Hh} {X : PX} {Q : (List D → List (Nat × List D) → Hh → Prop)} : vI (.each e) σ h X Q = vE e σ h X fun d h1 => eachK d h1 Q := by simp only [vE_eq, vO_eq, vC_eq, vA_eq, vI_eq, vS_eq, vB_eq, vF_eq]; rfl
theorem vI_enum {e : E} {σ : En} {h : Hh} {X : PX} {Q : (List D → List (Nat × List D) → Hh → Prop)} : vI (.enum e) σ h X Q = vE e σ h X fun d h1 => enumK d h1 Q := by simp only [vE_eq, vO_eq, vC_eq, vA_eq, vI_eq, vS_eq, vB_eq, vF_eq]; rfl
theorem vI_zip {a b : E} {σ : En} {h : Hh} {X : PX} {Q : (List D → List (Nat × List D) → Hh → Prop)} : vI (.zip a b) σ h X Q = vE a σ h X fun d h1 => vE b σ h1 X fun d2 h2 => zipK d d2 h2 Q := by simp only [vE_eq, vO_eq, vC_eq, vA_eq, vI_eq, vS_eq, vB_eq, vF_eq]; rfl
theorem vS_asgIx {o i e : E} {σ : En} {h : Hh} {X : PX} {P : Po} : vS (.asgIx o i e) σ h X P = vE e σ h X fun d h1 => vE o σ h1 X fun x h2 => vE i σ h2 X fun y h3 => setK x y d h3 (P.nx σ) := by simp only [vE_eq, vO_eq, vC_eq, vA_eq, vI_eq, vS_eq, vB_eq, vF_eq]; rfl
theorem vS_aug {op : BOp} {i : Nat} {e : E} {σ : En} {h : Hh} {X : PX} {P : Po} : vS (.aug op i e) σ h X P = ∃ x, σ[i]? = some (some x) ∧ vE e σ h X fun y h1 => augK op x y fun d => P.nx (σ.set i (some d)) h1 := by
  simp only [vE_eq, vS_eq]
  show (∃ x, _ ∧ _) = _
  refine congrArg _ (funext fun x => congrArg _ (congrArg _ (funext fun y => funext fun h1 => ?_)))
  cases op <;> cases x <;> cases y <;> rfl
theorem vF_mk {np ns : Nat} {body : B} {xs : List D} {h : Hh} {X : PX} {Q : PV} : vF (.mk np ns body) xs h X Q = (xs.length = np ∧ vB body (xs.map some ++ List.replicate (ns - np) none) h X ⟨fun _ h1 => Q .non h1, Q, fun _ _ => False, fun _ _ => False⟩) := by simp only [vE_eq, vO_eq, vC_eq, vA_eq, vI_eq, vS_eq, vB_eq, vF_eq]; rfl
end Mp
namespace Mp
/-! ### the drawn numbers -/
/-- all but the cell at a stands -/
def ExtB (a : Nat) (h h' : Hh) : Prop := ∀ b c, b ≠ a → h b = some c → h' b = some c
theorem ExtB.refl (a : Nat) (h : Hh) : ExtB a h h := fun _ _ _ e => e
theorem ExtB.trans {a : Nat} {h h1 h2 : Hh} (x : ExtB a h h1) (y : ExtB a h1 h2) : ExtB a h h2 := fun b c n e => y b c n (x b c n e)
theorem ExtB.of {a : Nat} {h h1 : Hh} (x : Ext h h1) : ExtB a h h1 := fun b c _ e => x b c e
theorem ExtB.up {a : Nat} {h : Hh} {c : Cell} : ExtB a h (up h a c) := fun b x n e => by rw [up_ne n]; exact e
/-- the hand of numbers -/
def HandAt (h : Hh) (a c : Nat) : Prop := ∃ (cells : List Int) (p w x y : Int), h a = some (.lst [.ref c, .int p, .int w, .int x, .int y]) ∧ c ≠ a ∧ h c = some (.lst (cells.map D.int)) ∧ 0 ≤ p
theorem HandAt.ext {h h' : Hh} {a c : Nat} (x : HandAt h a c) (e : Ext h h') : HandAt h' a c := by
  obtain ⟨cells, p, w, z, y, h1, h2, h3, h4⟩ := x
  exact ⟨cells, p, w, z, y, e _ _ h1, h2, e _ _ h3, h4⟩
/-- a write elsewhere -/
theorem HandAt.ext2 {h : Hh} {a c p : Nat} {d : Cell} (x : HandAt h a c) (n : a ≠ p) (m : c ≠ p) : HandAt (up h p d) a c := by
  obtain ⟨cells, p', w, z, y, h1, h2, h3, h4⟩ := x
  exact ⟨cells, p', w, z, y, by rw [up_ne n]; exact h1, h2, by rw [up_ne m]; exact h3, h4⟩
theorem HandAt.ne {h : Hh} {a c p : Nat} (x : HandAt h a c) (hp : h p = none) : a ≠ p ∧ c ≠ p := by
  obtain ⟨cells, p', w, z, y, h1, h2, h3, h4⟩ := x
  exact ⟨ne_fresh h1 hp, ne_fresh h3 hp⟩
theorem up_up {h : Hh} {a : Nat} {c d : Cell} : up (up h a c) a d = up h a d := by
  funext b
  unfold up
  split <;> rfl
theorem handUp {h : Hh} {a c : Nat} {p w x y : Int} {cells : List Int} (h2 : c ≠ a) (h3 : h c = some (.lst (cells.map D.int))) (h4 : 0 ≤ p) : HandAt (up h a (.lst [.ref c, .int p, .int w, .int x, .int y])) a c :=
  ⟨cells, p, w, x, y, up_same, h2, by rw [up_ne h2]; exact h3, h4⟩
theorem sp_draw {a c : Nat} {many : Int} {h : Hh} {X : PX} {Q : PV} (hh : HandAt h a c) (hm : 0 < many) (hb : many < 1000000) (q : ∀ d h', 0 ≤ d → d < many → HandAt h' a c → ExtB a h h' → Q (.int d) h') : wpF fn__law_draw [.ref a, .int many] h X Q := by
  obtain ⟨cells, p, w, x, y, ha, hca, hc, hp⟩ := hh
  have lg : many.natAbs.log2 < 9000 := by
    have : many.natAbs < 2 ^ 20 := by omega
    have := (Nat.log2_lt (by omega)).mpr this
    omega
  -- the rest behind the first if
  have mk : ∀ i j : Int, -(2 ^ 64) < j → j < 2 ^ 64 → MulOk i j := fun i j a b => .inr (.inl ⟨a, b⟩)
  have mk2 : ∀ i j : Int, -(2 ^ 64) < i → i < 2 ^ 64 → MulOk i j := fun i j a b => .inl ⟨a, b⟩
  have rest : ∀ (p w x y : Int) (o3 o4 : Option D) (h1 : Hh), 0 ≤ p → h1 a = some (.lst [.ref c, .int p, .int w, .int x, .int y]) → ExtB a h h1 → wpB b__law_draw_7 [some (.ref a), some (.int many), none, o3, o4] h1 X ⟨fun _ h1 => Q .non h1, Q, fun _ _ => False, fun _ _ => False⟩ := by
    intro p w x y o3 o4 h1 hp h1a e1
    have h1c : h1 c = some (.lst (cells.map D.int)) := e1 _ _ hca hc
    simp only [b__law_draw_7, wpB, wpS, wpE, wpA, wpO, wpC, wpI, tg_name, tg_nil, tg_cons, o_add, o_addT, o_addL, o_addS, o_sub, o_mul, o_mulT, o_neB, o_isnotB, o_isB, o_fdiv, o_mod, o_pow, o_eqI, o_neI, o_lt, o_le, o_gt, o_ge, o_is, o_isnot, o_in, o_notin, f_abs, f_str, f_int, f_isi, f_len, f_tuple, f_list, asInt_int, ty_append, ty_extend, ty_update, ty_count, ty_index, Lit.d, truth_bl, truth_non, truth_int, truth_tup, seqD_tup, lenD_tup, tyD_bl, tyD_int, tyD_str, tyD_non, tyD_tup, List.getElem?_cons_zero, List.getElem?_cons_succ, List.set_cons_zero, List.set_cons_succ, Option.some.injEq, exists_eq_left', List.map_cons, List.map_nil, List.cons_append, List.nil_append, List.length_cons, List.length_nil, List.replicate, setAll, wipeD, if_true, if_false, Bool.false_eq_true, ix_lst h1a, atI_2]
    split
    · rename_i hw
      simp only [b__law_draw_8, b__law_draw_9, b__law_draw_10, wpB, wpS, wpE, wpA, wpO, wpC, wpI, tg_name, tg_nil, tg_cons, o_add, o_addT, o_addL, o_addS, o_sub, o_mul, o_mulT, o_neB, o_isnotB, o_isB, o_fdiv, o_mod, o_pow, o_eqI, o_neI, o_lt, o_le, o_gt, o_ge, o_is, o_isnot, o_in, o_notin, f_abs, f_str, f_int, f_isi, f_len, f_tuple, f_list, asInt_int, ty_append, ty_extend, ty_update, ty_count, ty_index, Lit.d, truth_bl, truth_non, truth_int, truth_tup, seqD_tup, lenD_tup, tyD_bl, tyD_int, tyD_str, tyD_non, tyD_tup, List.getElem?_cons_zero, List.getElem?_cons_succ, List.set_cons_zero, List.set_cons_succ, Option.some.injEq, exists_eq_left', List.map_cons, List.map_nil, List.cons_append, List.nil_append, List.length_cons, List.length_nil, List.replicate, setAll, wipeD, if_true, if_false, Bool.false_eq_true, ix_lst h1a, atI_2]
      refine ⟨hm, ⟨hm, lg⟩, ?_⟩
      simp only [h1a, asInt, L2.ixN]
      refine ⟨2, rfl, ?_⟩
      refine q _ _ (Int.emod_nonneg _ (by omega)) (Int.emod_lt_of_pos _ hm) ?_ (e1.trans .up)
      exact handUp hca h1c hp
    · simp only [b__law_draw_11, wpB, wpS, wpE, wpA, wpO, wpC, wpI, tg_name, tg_nil, tg_cons, o_add, o_addT, o_addL, o_addS, o_sub, o_mul, o_mulT, o_neB, o_isnotB, o_isB, o_fdiv, o_mod, o_pow, o_eqI, o_neI, o_lt, o_le, o_gt, o_ge, o_is, o_isnot, o_in, o_notin, f_abs, f_str, f_int, f_isi, f_len, f_tuple, f_list, asInt_int, ty_append, ty_extend, ty_update, ty_count, ty_index, Lit.d, truth_bl, truth_non, truth_int, truth_tup, seqD_tup, lenD_tup, tyD_bl, tyD_int, tyD_str, tyD_non, tyD_tup, List.getElem?_cons_zero, List.getElem?_cons_succ, List.set_cons_zero, List.set_cons_succ, Option.some.injEq, exists_eq_left', List.map_cons, List.map_nil, List.cons_append, List.nil_append, List.length_cons, List.length_nil, List.replicate, setAll, wipeD, if_true, if_false, Bool.false_eq_true, ix_lst h1a, atI_4, h1a, L2.ixN]
      refine ⟨4, rfl, ?_⟩
      have e2 : ∀ z, up h1 a (Cell.lst [D.ref c, .int p, .int w, .int x, z]) a = some (.lst [D.ref c, .int p, .int w, .int x, z]) := fun z => up_same
      simp only [b__law_draw_12, b__law_draw_13, b__law_draw_14, b__law_draw_15, wpB, wpS, wpE, wpA, wpO, wpC, wpI, tg_name, tg_nil, tg_cons, o_add, o_addT, o_addL, o_addS, o_sub, o_mul, o_mulT, o_neB, o_isnotB, o_isB, o_fdiv, o_mod, o_pow, o_eqI, o_neI, o_lt, o_le, o_gt, o_ge, o_is, o_isnot, o_in, o_notin, f_abs, f_str, f_int, f_isi, f_len, f_tuple, f_list, asInt_int, ty_append, ty_extend, ty_update, ty_count, ty_index, Lit.d, truth_bl, truth_non, truth_int, truth_tup, seqD_tup, lenD_tup, tyD_bl, tyD_int, tyD_str, tyD_non, tyD_tup, List.getElem?_cons_zero, List.getElem?_cons_succ, List.set_cons_zero, List.set_cons_succ, Option.some.injEq, exists_eq_left', List.map_cons, List.map_nil, List.cons_append, List.nil_append, List.length_cons, List.length_nil, List.replicate, setAll, wipeD, if_true, if_false, Bool.false_eq_true, ix_lst (e2 _), atI_4, atI_3]
      refine ⟨mk2 _ _ (by decide) (by decide), mk _ _ (by decide) (by decide), by decide, ⟨by decide, by decide⟩, ?_⟩
      refine ⟨mk2 _ _ ?_ ?_, by decide, ⟨by decide, by decide⟩, mk2 _ _ ?_ ?_, by decide, ⟨by decide, by decide⟩, hm, ?_⟩
      · omega
      · omega
      · omega
      · omega
      · exact q _ _ (Int.emod_nonneg _ (by omega)) (Int.emod_lt_of_pos _ hm) (handUp hca h1c hp) (e1.trans .up)
  have start : wpB b__law_draw_7 [some (.ref a), some (.int many), none, none, none] h X ⟨fun _ h1 => Q .non h1, Q, fun _ _ => False, fun _ _ => False⟩ := rest p w x y _ _ h hp ha (.refl _ _)
  simp only [fn__law_draw, b__law_draw_1, wpF, wpB, wpS, wpE, wpA, wpO, wpC, wpI, tg_name, tg_nil, tg_cons, o_add, o_addT, o_addL, o_addS, o_sub, o_mul, o_mulT, o_neB, o_isnotB, o_isB, o_fdiv, o_mod, o_pow, o_eqI, o_neI, o_lt, o_le, o_gt, o_ge, o_is, o_isnot, o_in, o_notin, f_abs, f_str, f_int, f_isi, f_len, f_tuple, f_list, asInt_int, ty_append, ty_extend, ty_update, ty_count, ty_index, Lit.d, truth_bl, truth_non, truth_int, truth_tup, seqD_tup, lenD_tup, tyD_bl, tyD_int, tyD_str, tyD_non, tyD_tup, List.getElem?_cons_zero, List.getElem?_cons_succ, List.set_cons_zero, List.set_cons_succ, Option.some.injEq, exists_eq_left', List.map_cons, List.map_nil, List.cons_append, List.nil_append, List.length_cons, List.length_nil, List.replicate, setAll, wipeD, if_true, if_false, Bool.false_eq_true, ix_lst ha, atI_2, atI_1, atI_0, lenD_lst hc, List.length_map]
  refine ⟨trivial, ?_⟩
  split
  · split
    · rename_i h1 h2
      obtain ⟨d, e4, e3⟩ := atI_ok (xs := cells.map D.int) hp (by simpa using h2)
      obtain ⟨cell, -, rfl⟩ : ∃ z, z ∈ cells ∧ D.int z = d := by
        have := List.mem_of_getElem? e3
        simpa using this
      simp only [b__law_draw_2, b__law_draw_3, b__law_draw_4, b__law_draw_5, wpB, wpS, wpE, wpA, wpO, wpC, wpI, tg_name, tg_nil, tg_cons, o_add, o_addT, o_addL, o_addS, o_sub, o_mul, o_mulT, o_neB, o_isnotB, o_isB, o_fdiv, o_mod, o_pow, o_eqI, o_neI, o_lt, o_le, o_gt, o_ge, o_is, o_isnot, o_in, o_notin, f_abs, f_str, f_int, f_isi, f_len, f_tuple, f_list, asInt_int, ty_append, ty_extend, ty_update, ty_count, ty_index, Lit.d, truth_bl, truth_non, truth_int, truth_tup, seqD_tup, lenD_tup, tyD_bl, tyD_int, tyD_str, tyD_non, tyD_tup, List.getElem?_cons_zero, List.getElem?_cons_succ, List.set_cons_zero, List.set_cons_succ, Option.some.injEq, exists_eq_left', List.map_cons, List.map_nil, List.cons_append, List.nil_append, List.length_cons, List.length_nil, List.replicate, setAll, wipeD, if_true, if_false, Bool.false_eq_true, ix_lst ha, ix_lst hc, atI_0, atI_1, e4, ha, L2.ixN]
      refine ⟨1, rfl, ?_⟩
      have e5 : ∀ z, up h a (Cell.lst [D.ref c, z, .int w, .int x, .int y]) a = some (.lst [D.ref c, z, .int w, .int x, .int y]) := fun z => up_same
      simp only [wpB, wpS, wpE, wpA, wpO, wpC, wpI, tg_name, tg_nil, tg_cons, o_add, o_addT, o_addL, o_addS, o_sub, o_mul, o_mulT, o_neB, o_isnotB, o_isB, o_fdiv, o_mod, o_pow, o_eqI, o_neI, o_lt, o_le, o_gt, o_ge, o_is, o_isnot, o_in, o_notin, f_abs, f_str, f_int, f_isi, f_len, f_tuple, f_list, asInt_int, ty_append, ty_extend, ty_update, ty_count, ty_index, Lit.d, truth_bl, truth_non, truth_int, truth_tup, seqD_tup, lenD_tup, tyD_bl, tyD_int, tyD_str, tyD_non, tyD_tup, List.getElem?_cons_zero, List.getElem?_cons_succ, List.set_cons_zero, List.set_cons_succ, Option.some.injEq, exists_eq_left', List.map_cons, List.map_nil, List.cons_append, List.nil_append, List.length_cons, List.length_nil, List.replicate, setAll, wipeD, if_true, if_false, Bool.false_eq_true, ix_lst (e5 _), atI_3, e5, up_up]
      refine ⟨mk _ _ (by decide) (by decide), mk _ _ (by decide) (by decide), by decide, 3, rfl, ⟨by decide, by decide, by decide⟩, ?_⟩
      split
      · simp only [b__law_draw_6, wpB, wpS, wpE, wpA, wpO, wpC, wpI, tg_name, tg_nil, tg_cons, o_add, o_addT, o_addL, o_addS, o_sub, o_mul, o_mulT, o_neB, o_isnotB, o_isB, o_fdiv, o_mod, o_pow, o_eqI, o_neI, o_lt, o_le, o_gt, o_ge, o_is, o_isnot, o_in, o_notin, f_abs, f_str, f_int, f_isi, f_len, f_tuple, f_list, asInt_int, ty_append, ty_extend, ty_update, ty_count, ty_index, Lit.d, truth_bl, truth_non, truth_int, truth_tup, seqD_tup, lenD_tup, tyD_bl, tyD_int, tyD_str, tyD_non, tyD_tup, List.getElem?_cons_zero, List.getElem?_cons_succ, List.set_cons_zero, List.set_cons_succ, Option.some.injEq, exists_eq_left', List.map_cons, List.map_nil, List.cons_append, List.nil_append, List.length_cons, List.length_nil, List.replicate, setAll, wipeD, if_true, if_false, Bool.false_eq_true, up_same, up_up, L2.ixN]
        refine ⟨2, rfl, ?_⟩
        exact rest _ _ _ _ _ _ _ (by omega) up_same .up
      · exact rest _ _ _ _ _ _ _ (by omega) up_same .up
    · exact start
  · exact start
/-! ### places, boards, hands -/
abbrev sCup : List Nat := [99, 117, 112]
abbrev sSw : List Nat := [115, 119, 105, 116, 99, 104]
/-- a place: a cup or a switch -/
def plD (p : Bool × Nat) : D := .tup [.str (if p.1 then sCup else sSw), .int p.2]
structure Bd where
  cups : Nat
  sw : List (List (Bool × Nat))
def exD (ex : List (Bool × Nat)) : D := .tup (ex.map plD)
def bdD (b : Bd) : D := .tup [.int b.cups, .tup (b.sw.map exD)]
def plOk (c n : Nat) (p : Bool × Nat) : Prop := if p.1 then p.2 < c else p.2 < n
structure Bd.Ok (b : Bd) (mc ms me : Nat) : Prop where
  c0 : 1 ≤ b.cups
  c1 : b.cups ≤ mc
  s0 : 1 ≤ b.sw.length
  s1 : b.sw.length ≤ ms
  ex : ∀ ex ∈ b.sw, 1 ≤ ex.length ∧ ex.length ≤ me ∧ ∀ p ∈ ex, plOk b.cups b.sw.length p
def haD (hs : List Nat) : D := .tup (hs.map fun n : Nat => .int n)
def haOk (b : Bd) (hs : List Nat) : Prop := hs.length = b.sw.length ∧ ∀ (i n : Nat) (ex : List (Bool × Nat)), hs[i]? = some n → b.sw[i]? = some ex → n < ex.length
theorem sp_place {a cc : Nat} {c m : Int} {h : Hh} {X : PX} {Q : PV} (hh : HandAt h a cc) (hc : 0 < c) (hc2 : c < 1000000) (hm : 0 < m) (hm2 : m < 1000000) (q : ∀ p h', plOk c.toNat m.toNat p → HandAt h' a cc → ExtB a h h' → Q (plD p) h') : wpF fn__law_place [.ref a, .int c, .int m] h X Q := by
  simp only [fn__law_place, b__law_place_1, wpF, wpB, wpS, wpE, wpA, wpO, wpC, wpI, tg_name, tg_nil, tg_cons, o_add, o_addT, o_addL, o_addS, o_sub, o_mul, o_mulT, o_neB, o_isnotB, o_isB, o_fdiv, o_mod, o_pow, o_eqI, o_neI, o_lt, o_le, o_gt, o_ge, o_is, o_isnot, o_in, o_notin, f_abs, f_str, f_int, f_isi, f_len, f_tuple, f_list, asInt_int, ty_append, ty_extend, ty_update, ty_count, ty_index, Lit.d, truth_bl, truth_non, truth_int, truth_tup, seqD_tup, lenD_tup, tyD_bl, tyD_int, tyD_str, tyD_non, tyD_tup, List.getElem?_cons_zero, List.getElem?_cons_succ, List.set_cons_zero, List.set_cons_succ, Option.some.injEq, exists_eq_left', List.map_cons, List.map_nil, List.cons_append, List.nil_append, List.length_cons, List.length_nil, List.replicate, setAll, wipeD, if_true, if_false, Bool.false_eq_true]
  refine ⟨trivial, sp_draw hh (by decide) (by decide) fun d h1 d0 d1 hh1 e1 => ?_⟩
  simp only [wpB, wpS, wpE, wpA, wpO, wpC, wpI, tg_name, tg_nil, tg_cons, o_add, o_addT, o_addL, o_addS, o_sub, o_mul, o_mulT, o_neB, o_isnotB, o_isB, o_fdiv, o_mod, o_pow, o_eqI, o_neI, o_lt, o_le, o_gt, o_ge, o_is, o_isnot, o_in, o_notin, f_abs, f_str, f_int, f_isi, f_len, f_tuple, f_list, asInt_int, ty_append, ty_extend, ty_update, ty_count, ty_index, Lit.d, truth_bl, truth_non, truth_int, truth_tup, seqD_tup, lenD_tup, tyD_bl, tyD_int, tyD_str, tyD_non, tyD_tup, List.getElem?_cons_zero, List.getElem?_cons_succ, List.set_cons_zero, List.set_cons_succ, Option.some.injEq, exists_eq_left', List.map_cons, List.map_nil, List.cons_append, List.nil_append, List.length_cons, List.length_nil, List.replicate, setAll, wipeD, if_true, if_false, Bool.false_eq_true]
  split
  · refine sp_draw hh1 hc hc2 fun d h2 d0 d1 hh2 e2 => ⟨by decide, ?_⟩
    have := q (true, d.toNat) h2 (by show d.toNat < c.toNat; omega) hh2 (e1.trans e2)
    have e : ((d.toNat : Nat) : Int) = d := by omega
    simpa only [plD, if_true, e] using this
  · refine sp_draw hh1 hm hm2 fun d h2 d0 d1 hh2 e2 => ⟨by decide, ?_⟩
    have := q (false, d.toNat) h2 (by show d.toNat < m.toNat; omega) hh2 (e1.trans e2)
    have e : ((d.toNat : Nat) : Int) = d := by omega
    simpa only [plD, Bool.false_eq_true, if_false, e] using this
/-- a drawn hand of each switch -/
theorem sp_hands {a c : Nat} {b : Bd} {mc ms me : Nat} {h : Hh} {X : PX} {Q : PV} (hh : HandAt h a c) (hb : b.Ok mc ms me) (hs : ms ≤ 1000) (he : me < 1000000) (q : ∀ hs h', haOk b hs → HandAt h' a c → ExtB a h h' → Q (haD hs) h') : wpF fn__law_hands [.ref a, bdD b] h X Q := by
  simp only [fn__law_hands, b__law_hands_1, bdD, wpF, wpB, wpS, wpE, wpA, wpO, wpC, wpI, tg_name, tg_nil, tg_cons, o_add, o_addT, o_addL, o_addS, o_sub, o_mul, o_mulT, o_neB, o_isnotB, o_isB, o_fdiv, o_mod, o_pow, o_eqI, o_neI, o_lt, o_le, o_gt, o_ge, o_is, o_isnot, o_in, o_notin, f_abs, f_str, f_int, f_isi, f_len, f_tuple, f_list, asInt_int, ty_append, ty_extend, ty_update, ty_count, ty_index, Lit.d, truth_bl, truth_non, truth_int, truth_tup, seqD_tup, lenD_tup, tyD_bl, tyD_int, tyD_str, tyD_non, tyD_tup, List.getElem?_cons_zero, List.getElem?_cons_succ, List.set_cons_zero, List.set_cons_succ, Option.some.injEq, exists_eq_left', List.map_cons, List.map_nil, List.cons_append, List.nil_append, List.length_cons, List.length_nil, List.replicate, setAll, wipeD, if_true, if_false, Bool.false_eq_true, ix_tup, atI_1]
  refine ⟨trivial, fun p hp => ?_⟩
  obtain ⟨npa', npc'⟩ := hh.ne hp
  have npa := Ne.symm npa'
  refine itr_inv (fun i σ' h' => σ' = [some (D.ref a), some (D.tup [D.int ↑b.cups, D.tup (List.map exD b.sw)]), none] ∧ HandAt h' a c ∧ (∀ c x, c ≠ a → h c = some x → h' c = some x) ∧ ∃ ns : List Nat, ns.length = i ∧ i ≤ b.sw.length ∧
    h' p = some (.lst (ns.map fun n : Nat => .int n)) ∧ ∀ (j n : Nat) (ex : List (Bool × Nat)), ns[j]? = some n → b.sw[j]? = some ex → n < ex.length) (fun _ _ h _ => GOk_nil h) ?_ ?_ ⟨rfl, hh.ext (.up hp), ExtB.upF (fun _ _ _ e => e) hp, [], rfl, Nat.zero_le _, up_same, fun j n ex e => by simp at e⟩
  · rintro i x σ' h' k hx ⟨rfl, hh', fr, ns, hl, hi, hp', hn⟩ hk
    rw [List.getElem?_map] at hx
    obtain ⟨ex, hex, rfl⟩ := Option.map_eq_some_iff.mp hx
    have hlt : i < b.sw.length := (List.getElem?_eq_some_iff.mp hex).1
    obtain ⟨x1, x2, x3⟩ := hb.ex ex (List.mem_of_getElem? hex)
    simp only [exD, wpB, wpS, wpE, wpA, wpO, wpC, wpI, tg_name, tg_nil, tg_cons, o_add, o_addT, o_addL, o_addS, o_sub, o_mul, o_mulT, o_neB, o_isnotB, o_isB, o_fdiv, o_mod, o_pow, o_eqI, o_neI, o_lt, o_le, o_gt, o_ge, o_is, o_isnot, o_in, o_notin, f_abs, f_str, f_int, f_isi, f_len, f_tuple, f_list, asInt_int, ty_append, ty_extend, ty_update, ty_count, ty_index, Lit.d, truth_bl, truth_non, truth_int, truth_tup, seqD_tup, lenD_tup, tyD_bl, tyD_int, tyD_str, tyD_non, tyD_tup, List.getElem?_cons_zero, List.getElem?_cons_succ, List.set_cons_zero, List.set_cons_succ, Option.some.injEq, exists_eq_left', List.map_cons, List.map_nil, List.cons_append, List.nil_append, List.length_cons, List.length_nil, List.replicate, setAll, wipeD, if_true, if_false, Bool.false_eq_true, List.length_map]

    refine sp_draw hh' (by omega) (by omega) fun d h2 d0 d1 hh2 e2 => ?_
    refine ⟨_, e2 _ _ npa hp', by rw [List.length_map]; exact szl (by have := hb.s1; omega), ?_⟩
    refine hk _ _ ⟨rfl, hh2.ext2 npa' npc', ExtB.upF (fun c x n e => e2 c x n (fr c x n e)) hp, ns ++ [d.toNat], by simp [hl], hlt, ?_, ?_⟩
    · rw [up_same]
      have e : ((d.toNat : Nat) : Int) = d := by omega
      simp [e]
    · intro j n ex' e1 e3
      by_cases hj : j < ns.length
      · rw [List.getElem?_append_left hj] at e1
        exact hn j n ex' e1 e3
      · rw [List.getElem?_append_right (by omega)] at e1
        have : j - ns.length = 0 := by
          by_cases z : j - ns.length = 0
          · exact z
          · rw [List.getElem?_eq_none (by simp; omega)] at e1; cases e1
        have hj' : j = i := by omega
        subst hj'
        rw [hex] at e3; cases e3
        simp [this] at e1
        omega
  · rintro σ' h' ⟨rfl, hh', fr, ns, hl, hi, hp', hn⟩
    exact ⟨_, seqD_lst hp', q ns h' ⟨by rw [hl, List.length_map], hn⟩ hh' fr⟩
theorem sp_board {a c : Nat} {most : Int} {h : Hh} {X : PX} {Q : PV} (hh : HandAt h a c) (h1 : 0 < most) (h2 : most ≤ 1000) (q : ∀ b h', b.Ok 3 most.toNat 3 → HandAt h' a c → ExtB a h h' → Q (bdD b) h') : wpF fn__law_board [.ref a, .int most] h X Q := by
  simp only [fn__law_board, b__law_board_1, wpF, wpB, wpS, wpE, wpA, wpO, wpC, wpI, tg_name, tg_nil, tg_cons, o_add, o_addT, o_addL, o_addS, o_sub, o_mul, o_mulT, o_neB, o_isnotB, o_isB, o_fdiv, o_mod, o_pow, o_eqI, o_neI, o_lt, o_le, o_gt, o_ge, o_is, o_isnot, o_in, o_notin, f_abs, f_str, f_int, f_isi, f_len, f_tuple, f_list, asInt_int, ty_append, ty_extend, ty_update, ty_count, ty_index, Lit.d, truth_bl, truth_non, truth_int, truth_tup, seqD_tup, lenD_tup, tyD_bl, tyD_int, tyD_str, tyD_non, tyD_tup, List.getElem?_cons_zero, List.getElem?_cons_succ, List.set_cons_zero, List.set_cons_succ, Option.some.injEq, exists_eq_left', List.map_cons, List.map_nil, List.cons_append, List.nil_append, List.length_cons, List.length_nil, List.replicate, setAll, wipeD, if_true, if_false, Bool.false_eq_true]
  refine ⟨trivial, sp_draw hh (by decide) (by decide) fun d1 h1 a0 a1 hh1 e1 => sp_draw hh1 (by omega) (by omega) fun d2 h2 b0 b1 hh2 e2 => ?_⟩
  refine ⟨by decide, ?_⟩
  simp only [b__law_board_2, b__law_board_3, wpB, wpS, wpE, wpA, wpO, wpC, wpI, tg_name, tg_nil, tg_cons, o_add, o_addT, o_addL, o_addS, o_sub, o_mul, o_mulT, o_neB, o_isnotB, o_isB, o_fdiv, o_mod, o_pow, o_eqI, o_neI, o_lt, o_le, o_gt, o_ge, o_is, o_isnot, o_in, o_notin, f_abs, f_str, f_int, f_isi, f_len, f_tuple, f_list, asInt_int, ty_append, ty_extend, ty_update, ty_count, ty_index, Lit.d, truth_bl, truth_non, truth_int, truth_tup, seqD_tup, lenD_tup, tyD_bl, tyD_int, tyD_str, tyD_non, tyD_tup, List.getElem?_cons_zero, List.getElem?_cons_succ, List.set_cons_zero, List.set_cons_succ, Option.some.injEq, exists_eq_left', List.map_cons, List.map_nil, List.cons_append, List.nil_append, List.length_cons, List.length_nil, List.replicate, setAll, wipeD, if_true, if_false, Bool.false_eq_true]
  refine ⟨by decide, fun p hp => ⟨by omega, by omega, ?_⟩⟩
  obtain ⟨npa, npc⟩ := hh2.ne hp
  have hp0 : h p = none := by
    cases e : h p with
    | none => rfl
    | some x =>
      have := e2 p x (Ne.symm npa) (e1 p x (Ne.symm npa) e)
      rw [hp] at this; cases this
  have hpa : ∀ b x, b ≠ a → h b = some x → up h2 p (Cell.lst []) b = some x := ExtB.upF (fun b x n e => e2 b x n (e1 b x n e)) hp0
  obtain ⟨m, hm⟩ : ∃ m : Nat, (1 + d2).toNat = m := ⟨_, rfl⟩
  have hm1 : 1 + d2 = (m : Int) := by omega
  rw [hm]
  simp only [hm1]
  refine itr_inv (fun i σ' h' => (∃ o, σ' = [some (D.ref a), some (D.int most), some (D.ref p), o, some (.int (1 + d1)), some (.int m), none]) ∧ HandAt h' a c ∧ (∀ b x, b ≠ a → b ≠ p → up h2 p (Cell.lst []) b = some x → h' b = some x) ∧
    ∃ sw : List (List (Bool × Nat)), sw.length = i ∧ i ≤ m ∧ h' p = some (.lst (sw.map exD)) ∧ ∀ ex ∈ sw, 1 ≤ ex.length ∧ ex.length ≤ 3 ∧ ∀ pl ∈ ex, plOk (1 + d1).toNat m pl) (fun _ _ h _ => GOk_nil h) ?_ ?_
    ⟨⟨_, rfl⟩, hh2.ext2 npa npc, fun b x _ _ e => e, [], rfl, Nat.zero_le _, up_same, fun _ z => absurd z List.not_mem_nil⟩
  · rintro i x σ' h' k hx ⟨⟨o, rfl⟩, hh', fr, sw, hl, hi, hp', hn⟩ hk
    have hlt : i < m := by
      have := (List.getElem?_eq_some_iff.mp hx).1
      simpa using this
    simp only [b__law_board_4, wpB, wpS, wpE, wpA, wpO, wpC, wpI, tg_name, tg_nil, tg_cons, o_add, o_addT, o_addL, o_addS, o_sub, o_mul, o_mulT, o_neB, o_isnotB, o_isB, o_fdiv, o_mod, o_pow, o_eqI, o_neI, o_lt, o_le, o_gt, o_ge, o_is, o_isnot, o_in, o_notin, f_abs, f_str, f_int, f_isi, f_len, f_tuple, f_list, asInt_int, ty_append, ty_extend, ty_update, ty_count, ty_index, Lit.d, truth_bl, truth_non, truth_int, truth_tup, seqD_tup, lenD_tup, tyD_bl, tyD_int, tyD_str, tyD_non, tyD_tup, List.getElem?_cons_zero, List.getElem?_cons_succ, List.set_cons_zero, List.set_cons_succ, Option.some.injEq, exists_eq_left', List.map_cons, List.map_nil, List.cons_append, List.nil_append, List.length_cons, List.length_nil, List.replicate, setAll, wipeD, if_true, if_false, Bool.false_eq_true, tyD_lst hp']
    refine ⟨trivial, sp_draw hh' (by decide) (by decide) fun d3 h3 c0 c1 hh3 e3 => ⟨by omega, by omega, fun r hr => ?_⟩⟩
    obtain ⟨nra, nrc⟩ := hh3.ne hr
    have h3p : h3 p = some (.lst (sw.map exD)) := e3 _ _ (Ne.symm npa) hp'
    have npr : p ≠ r := ne_fresh h3p hr
    refine itr_inv (fun j σ'' h'' => (σ'' = [some (D.ref a), some (D.int most), some (D.ref p), some x, some (.int (1 + d1)), some (.int m), none]) ∧ HandAt h'' a c ∧ (∀ b x, b ≠ a → h3 b = some x → h'' b = some x) ∧
      ∃ ex : List (Bool × Nat), ex.length = j ∧ j ≤ (1 + d3).toNat ∧ h'' r = some (.lst (ex.map plD)) ∧ ∀ pl ∈ ex, plOk (1 + d1).toNat m pl) (fun _ _ h _ => GOk_nil h) ?_ ?_
      ⟨rfl, hh3.ext2 nra nrc, ExtB.upF (fun _ _ _ e => e) hr, [], rfl, Nat.zero_le _, up_same, fun _ z => absurd z List.not_mem_nil⟩
    · rintro j y σ'' h'' k2 hy ⟨rfl, hh'', fr2, ex, hl2, hj, hr', hn2⟩ hk2
      have hlt2 : j < (1 + d3).toNat := by
        have := (List.getElem?_eq_some_iff.mp hy).1
        simpa using this
      refine sp_place hh'' (by omega) (by omega) (by omega) (by omega) fun pl h4 ok hh4 e4 => ?_
      refine ⟨_, e4 _ _ (Ne.symm nra) hr', by rw [List.length_map]; exact szl (by omega), ?_⟩
      refine hk2 _ _ ⟨rfl, hh4.ext2 nra nrc, ExtB.upF (fun b x n e => e4 b x n (fr2 b x n e)) hr, ex ++ [pl], by simp [hl2], hlt2, ?_, ?_⟩
      · rw [up_same]; simp
      · intro z hz
        rcases List.mem_append.mp hz with hz | hz
        · exact hn2 z hz
        · obtain rfl : z = pl := by simpa using hz
          simpa using ok
    · rintro σ'' h'' ⟨rfl, hh'', fr2, ex, hl2, hj, hr', hn2⟩
      have hp'' : h'' p = some (.lst (sw.map exD)) := fr2 _ _ (Ne.symm npa) h3p
      refine ⟨_, seqD_lst hr', ?_⟩
      rw [m_append]
      refine ⟨_, hp'', by rw [List.length_map]; exact szl (by omega), ?_⟩
      refine hk _ _ ⟨⟨_, rfl⟩, hh''.ext2 npa npc, fun b x n n2 e => ?_, sw ++ [ex], by simp [hl], hlt, ?_, ?_⟩
      · rw [up_ne n2]
        exact fr2 b x n (e3 b x n (fr b x n n2 e))
      · rw [up_same]; simp [exD]
      · intro z hz
        rcases List.mem_append.mp hz with hz | hz
        · exact hn z hz
        · obtain rfl : z = ex := by simpa using hz
          have hlen : z.length = (1 + d3).toNat := by simpa using hl2
          exact ⟨by omega, by omega, hn2⟩
  · rintro σ' h' ⟨⟨o, rfl⟩, hh', fr, sw, hl, hi, hp', hn⟩
    simp only [b__law_board_5, wpB, wpS, wpE, wpA, wpO, wpC, wpI, tg_name, tg_nil, tg_cons, o_add, o_addT, o_addL, o_addS, o_sub, o_mul, o_mulT, o_neB, o_isnotB, o_isB, o_fdiv, o_mod, o_pow, o_eqI, o_neI, o_lt, o_le, o_gt, o_ge, o_is, o_isnot, o_in, o_notin, f_abs, f_str, f_int, f_isi, f_len, f_tuple, f_list, asInt_int, ty_append, ty_extend, ty_update, ty_count, ty_index, Lit.d, truth_bl, truth_non, truth_int, truth_tup, seqD_tup, lenD_tup, tyD_bl, tyD_int, tyD_str, tyD_non, tyD_tup, List.getElem?_cons_zero, List.getElem?_cons_succ, List.set_cons_zero, List.set_cons_succ, Option.some.injEq, exists_eq_left', List.map_cons, List.map_nil, List.cons_append, List.nil_append, List.length_cons, List.length_nil, List.replicate, setAll, wipeD, if_true, if_false, Bool.false_eq_true]
    refine ⟨_, seqD_lst hp', by decide, ?_⟩
    have hlen : sw.length = m := by simpa using hl
    have := q ⟨(1 + d1).toNat, sw⟩ h' ⟨by show 1 ≤ (1 + d1).toNat; omega, by show (1 + d1).toNat ≤ 3; omega, by show 1 ≤ sw.length; omega, by show sw.length ≤ _; omega, fun ex hex => by
      have := hn ex hex
      show 1 ≤ ex.length ∧ ex.length ≤ 3 ∧ ∀ p ∈ ex, plOk (1 + d1).toNat sw.length p
      rw [hlen]; exact this⟩ hh' (fun b x n e => by
        have nb : b ≠ p := by
          rintro rfl
          have := e2 b x n (e1 b x n e)
          rw [hp] at this; cases this
        exact fr b x n nb (hpa b x n e))
    have e : (((1 + d1).toNat : Nat) : Int) = 1 + d1 := by omega
    simpa only [bdD, e] using this
end Mp
namespace Mp
/-! ### lost switches -/
inductive Reach (b : Bd) : Nat → Prop
  | cup {s : Nat} {ex : List (Bool × Nat)} {n : Nat} : b.sw[s]? = some ex → (true, n) ∈ ex → Reach b s
  | step {s : Nat} {ex : List (Bool × Nat)} {t : Nat} : b.sw[s]? = some ex → (false, t) ∈ ex → Reach b t → Reach b s
open Classical in
noncomputable def lostL (b : Bd) : List Nat := (List.range b.sw.length).filter fun s => !decide (Reach b s)
/-- nothing more is to be found -/
def Closed (b : Bd) (gs : List Nat) : Prop := ∀ (s : Nat) (ex : List (Bool × Nat)), b.sw[s]? = some ex → s ∉ gs → ∀ p ∈ ex, p.1 = false ∧ p.2 ∉ gs
theorem Closed.reach {b : Bd} {gs : List Nat} (c : Closed b gs) {s : Nat} (r : Reach b s) : s ∈ gs := by
  induction r with
  | cup h m =>
    rename_i s ex n
    by_cases e : s ∈ gs
    · exact e
    · have := (c s ex h e _ m).1
      cases this
  | step h m _ ih =>
    rename_i s ex t _
    by_cases e : s ∈ gs
    · exact e
    · exact absurd ih (c s ex h e _ m).2
/-- is there a good exit -/
def goodEx (gs : List Nat) (ex : List (Bool × Nat)) : Bool := ex.any fun p => p.1 || decide (p.2 ∈ gs)
theorem goodEx_reach {b : Bd} {gs : List Nat} {s : Nat} {ex : List (Bool × Nat)} (h : b.sw[s]? = some ex) (g : ∀ s ∈ gs, Reach b s) (e : goodEx gs ex = true) : Reach b s := by
  obtain ⟨p, hp, q⟩ := List.any_eq_true.mp e
  obtain ⟨c, n⟩ := p
  cases c with
  | true => exact .cup h hp
  | false =>
    have : n ∈ gs := by simpa using q
    exact .step h hp (g n this)
theorem goodEx_closed {gs : List Nat} {ex : List (Bool × Nat)} (e : goodEx gs ex = false) : ∀ p ∈ ex, p.1 = false ∧ p.2 ∉ gs := by
  intro p hp
  have := List.any_eq_false.mp e p hp
  simpa using this
theorem pl_place (p : Bool × Nat) : pl 20 (plD p) = true := by
  obtain ⟨c, n⟩ := p
  cases c <;> rfl
open Classical in
/-- the law's own: any([place[0] == 'cup' or place[1] in good for place in exits]) -/
theorem lost_any {b : Bd} {gs : List Nat} {g : Nat} {ex : List (Bool × Nat)} {h : Hh} {hl : ex.length ≤ 1000} (hg : h g = some (.lst (gs.map fun n : Nat => .int n))) {σ : En} {own : List Nat} {k : PV}
    (hk : ∀ h', Ext h h' → k (.bl (goodEx gs ex)) h') {p : Nat} (hp : h p = none) {turn : D → En → Hh → (En → Hh → Prop) → Prop}
    (ht : ∀ pl h' (kk : En → Hh → Prop), pl ∈ ex → Ext h h' → (∀ h4, Ext h' h4 → ∃ acc, h4 p = some (.lst acc) ∧ acc.length < sz ∧ kk σ (up h4 p (.lst (acc ++ [.bl (pl.1 || decide (pl.2 ∈ gs))])))) → turn (plD pl) σ h' kk) :
    itr [] turn (fun _ h2 => opF .any [.ref p] h2 k) (ex.map plD) σ (up h p (.lst [])) := by
  refine lc_map hp (by rw [List.length_map]; omega) (fun x => match x with | .tup [.str s, .int n] => .bl (decide (s = sCup) || decide (n.toNat ∈ gs)) | _ => .non) (fun h' _ => GOk_nil h') ?_ ?_
  · intro x h' kk hx e hk2
    obtain ⟨pl, hpl, rfl⟩ := List.mem_map.mp hx
    refine ht pl h' kk hpl e ?_
    obtain ⟨c, n⟩ := pl
    cases c <;> simpa [plD] using hk2
  · intro h' e hp'
    rw [f_any]
    refine ⟨ex.map fun pl => pl.1 || decide (pl.2 ∈ gs), ?_, ?_⟩
    · rw [hp']
      congr 2
      rw [List.map_map, List.map_map]
      refine List.map_congr_left fun pl _ => ?_
      obtain ⟨c, n⟩ := pl
      cases c <;> simp [plD]
    · rw [List.any_map]
      exact hk h' e
theorem eq_cup {s : Bool} {h : Hh} {Q : PV} : opC .eq (.str (if s = true then sCup else sSw)) (.str sCup) h Q = Q (.bl s) h := by
  rw [o_eqS (by cases s <;> rfl) rfl]
  cases s <;> rfl
theorem eq_sw {s : Bool} {h : Hh} {Q : PV} : opC .eq (.str (if s = true then sCup else sSw)) (.str sSw) h Q = Q (.bl (!s)) h := by
  rw [o_eqS (by cases s <;> rfl) rfl]
  cases s <;> rfl
theorem nodup_len : ∀ (n : Nat) (gs : List Nat), gs.Nodup → (∀ s ∈ gs, s < n) → gs.length ≤ n
  | 0, gs, _, h => by
    cases gs with
    | nil => exact Nat.le_refl _
    | cons s gs => exact absurd (h s List.mem_cons_self) (Nat.not_lt_zero _)
  | n + 1, gs, nd, h => by
    have ih := nodup_len n (gs.erase n) (nd.erase n) fun s hs => by
      have := (nd.mem_erase_iff).mp hs
      have := h s this.2
      omega
    have := List.length_erase (a := n) (l := gs)
    split at this <;> omega
theorem nodup_all {n : Nat} {gs : List Nat} (nd : gs.Nodup) (h : ∀ s ∈ gs, s < n) (l : n ≤ gs.length) {s : Nat} (hs : s < n) : s ∈ gs := by
  by_cases e : s ∈ gs
  · exact e
  · have := nodup_len n (s :: gs) (List.nodup_cons.mpr ⟨e, nd⟩) fun x hx => by
      rcases List.mem_cons.mp hx with rfl | hx
      · exact hs
      · exact h x hx
    rw [List.length_cons] at this
    omega
theorem Reach.lt {b : Bd} {s : Nat} (r : Reach b s) : s < b.sw.length := by
  cases r with
  | cup h _ => exact (List.getElem?_eq_some_iff.mp h).1
  | step h _ _ => exact (List.getElem?_eq_some_iff.mp h).1
/-- behind the search: what is lost -/
theorem lost_filter {b : Bd} {gs : List Nat} (c : ∀ s, Reach b s ↔ s ∈ gs) : (List.range b.sw.length).filter (fun s => !decide (s ∈ gs)) = lostL b := by
  unfold lostL
  refine List.filter_congr fun s _ => ?_
  simp [c s]
open Classical in
theorem lost_comp {b : Bd} {gs : List Nat} {p : Nat} {h : Hh} {σ : En} {turn : D → En → Hh → (En → Hh → Prop) → Prop} {fin : En → Hh → Prop} (hp : h p = none) (iff : ∀ s, Reach b s ↔ s ∈ gs) (hn : b.sw.length ≤ 1000)
    (ht : ∀ (s : Nat) h2 (k : En → Hh → Prop), Ext h h2 → (if s ∈ gs then k σ h2 else ∃ acc, h2 p = some (.lst acc) ∧ acc.length < sz ∧ k σ (up h2 p (.lst (acc ++ [.int s])))) → turn (.int s) σ h2 k)
    (hfin : ∀ h', Ext h h' → h' p = some (.lst ((lostL b).map fun n : Nat => .int n)) → fin σ h') : itr [] turn fin ((List.range b.sw.length).map fun i : Nat => .int i) σ (up h p (.lst [])) := by
  refine lc_fm hp (by simp; omega) (fun x => match x with | .int s => if s.toNat ∈ gs then none else some x | _ => none) (fun h' _ => GOk_nil h') ?_ ?_
  · intro x h' k hx e hk
    obtain ⟨s, _, rfl⟩ := List.mem_map.mp hx
    refine ht s h' k e ?_
    have := hk h' (.refl _)
    by_cases hs : s ∈ gs
    · simpa [hs] using this
    · simpa [hs] using this
  · intro h' e hp'
    refine hfin h' e ?_
    rw [hp', ← lost_filter iff]
    congr 2
    have key : ∀ xs : List Nat, (xs.map fun i : Nat => D.int i).filterMap (fun x => match x with | .int s => if s.toNat ∈ gs then none else some x | _ => none) = (xs.filter fun s => !decide (s ∈ gs)).map fun n : Nat => D.int n := by
      intro xs
      induction xs with
      | nil => rfl
      | cons x xs ih =>
        rw [List.map_cons, List.filterMap_cons, List.filter_cons, ih]
        by_cases hx : x ∈ gs <;> simp [hx]
    exact key _
theorem sp__law_lost {b : Bd} {mc ms me : Nat} {h : Hh} {X : PX} {Q : PV} (hb : b.Ok mc ms me) (hms : ms ≤ 1000) (hme : me ≤ 1000) (q : ∀ p h', Ext h h' → h p = none → h' p = some (.lst ((lostL b).map fun n : Nat => .int n)) → Q (.ref p) h') : wpF fn__law_lost [bdD b] h X Q := by
  simp only [fn__law_lost, b__law_lost_1, b__law_lost_2, bdD, wpF, wpB, wpS, wpE, wpA, wpO, wpC, wpI, tg_name, tg_nil, tg_cons, o_add, o_addT, o_addL, o_addS, o_sub, o_mul, o_mulT, o_neB, o_isnotB, o_isB, o_fdiv, o_mod, o_pow, o_eqI, o_neI, o_lt, o_le, o_gt, o_ge, o_is, o_isnot, o_in, o_notin, f_abs, f_str, f_int, f_isi, f_len, f_tuple, f_list, asInt_int, ty_append, ty_extend, ty_update, ty_count, ty_index, Lit.d, truth_bl, truth_non, truth_int, truth_tup, seqD_tup, lenD_tup, tyD_bl, tyD_int, tyD_str, tyD_non, tyD_tup, List.getElem?_cons_zero, List.getElem?_cons_succ, List.set_cons_zero, List.set_cons_succ, Option.some.injEq, exists_eq_left', List.map_cons, List.map_nil, List.cons_append, List.nil_append, List.length_cons, List.length_nil, List.replicate, setAll, wipeD, if_true, if_false, Bool.false_eq_true, ix_tup, atI_1, atI_0]
  refine ⟨trivial, by decide, fun g hg => ?_⟩
  have hn : b.sw.length ≤ 1000 := Nat.le_trans hb.s1 hms
  refine itr_inv (fun i σ' h' => (∃ o2 o3 o4, σ' = [some (D.tup [D.int ↑b.cups, D.tup (List.map exD b.sw)]), some (D.ref g), o2, o3, o4, none]) ∧ Ext h h' ∧ ∃ gs : List Nat, h' g = some (.lst (gs.map fun n : Nat => .int n)) ∧ gs.Nodup ∧ (∀ s ∈ gs, Reach b s) ∧ (Closed b gs ∨ i ≤ gs.length))
    (fun _ _ h _ => GOk_nil h) ?_ ?_ ⟨⟨_, _, _, rfl⟩, .up hg, [], up_same, List.nodup_nil, fun _ z => absurd z List.not_mem_nil, .inr (Nat.zero_le _)⟩
  · rintro i x σ' h' k hx ⟨⟨o2, o3, o4, rfl⟩, e, gs0, hg0, nd0, gr0, cl0⟩ hk
    simp only [b__law_lost_3, wpB, wpS, wpE, wpA, wpO, wpC, wpI, tg_name, tg_nil, tg_cons, o_add, o_addT, o_addL, o_addS, o_sub, o_mul, o_mulT, o_neB, o_isnotB, o_isB, o_fdiv, o_mod, o_pow, o_eqI, o_neI, o_lt, o_le, o_gt, o_ge, o_is, o_isnot, o_in, o_notin, f_abs, f_str, f_int, f_isi, f_len, f_tuple, f_list, asInt_int, ty_append, ty_extend, ty_update, ty_count, ty_index, Lit.d, truth_bl, truth_non, truth_int, truth_tup, seqD_tup, lenD_tup, tyD_bl, tyD_int, tyD_str, tyD_non, tyD_tup, List.getElem?_cons_zero, List.getElem?_cons_succ, List.set_cons_zero, List.set_cons_succ, Option.some.injEq, exists_eq_left', List.map_cons, List.map_nil, List.cons_append, List.nil_append, List.length_cons, List.length_nil, List.replicate, setAll, wipeD, if_true, if_false, Bool.false_eq_true, ix_tup, atI_1]
    refine itr_inv (fun j σ'' h'' => (∃ o3 o4, σ'' = [some (D.tup [D.int ↑b.cups, D.tup (List.map exD b.sw)]), some (D.ref g), some x, o3, o4, none]) ∧ Ext h h'' ∧ ∃ gs : List Nat, h'' g = some (.lst (gs.map fun n : Nat => .int n)) ∧ gs.Nodup ∧ (∀ s ∈ gs, Reach b s) ∧
      (Closed b gs0 → gs = gs0) ∧ (gs0.length < gs.length ∨ (gs = gs0 ∧ ∀ (s : Nat) (ex : List (Bool × Nat)), s < j → b.sw[s]? = some ex → s ∉ gs0 → goodEx gs0 ex = false)))
      (fun _ _ h _ => GOk_nil h) ?_ ?_ ⟨⟨_, _, rfl⟩, e, gs0, hg0, nd0, gr0, fun _ => rfl, .inr ⟨rfl, fun s ex z => absurd z (Nat.not_lt_zero _)⟩⟩
    · rintro j y σ'' h'' k2 hy ⟨⟨o3, o4, rfl⟩, e2, gs, hg2, nd, gr, cl, gl⟩ hk2
      rw [List.getElem?_mapIdx, List.getElem?_map] at hy
      obtain ⟨x2, hx2, rfl⟩ := Option.map_eq_some_iff.mp hy
      obtain ⟨ex, hex, rfl⟩ := Option.map_eq_some_iff.mp hx2
      have hlt : j < b.sw.length := (List.getElem?_eq_some_iff.mp hex).1
      have hlen : ex.length ≤ 1000 := Nat.le_trans (hb.ex ex (List.mem_of_getElem? hex)).2.1 hme
      simp only [b__law_lost_4, wpB, wpS, wpE, wpA, wpO, wpC, wpI, tg_name, tg_nil, tg_cons, o_add, o_addT, o_addL, o_addS, o_sub, o_mul, o_mulT, o_neB, o_isnotB, o_isB, o_fdiv, o_mod, o_pow, o_eqI, o_neI, o_lt, o_le, o_gt, o_ge, o_is, o_isnot, o_in, o_notin, f_abs, f_str, f_int, f_isi, f_len, f_tuple, f_list, asInt_int, ty_append, ty_extend, ty_update, ty_count, ty_index, Lit.d, truth_bl, truth_non, truth_int, truth_tup, seqD_tup, lenD_tup, tyD_bl, tyD_int, tyD_str, tyD_non, tyD_tup, List.getElem?_cons_zero, List.getElem?_cons_succ, List.set_cons_zero, List.set_cons_succ, Option.some.injEq, exists_eq_left', List.map_cons, List.map_nil, List.cons_append, List.nil_append, List.length_cons, List.length_nil, List.replicate, setAll, wipeD, if_true, if_false, Bool.false_eq_true, mem_ints hg2]
      -- nothing found at j
      have no : ∀ h3, Ext h'' h3 → (j ∉ gs → goodEx gs ex = false) → k2 [some (D.tup [D.int ↑b.cups, D.tup (List.map exD b.sw)]), some (D.ref g), some x, some (.int j), some (exD ex), none] h3 := fun h3 e3 hz => by
        refine hk2 _ _ ⟨⟨_, _, rfl⟩, e2.trans e3, gs, e3 _ _ hg2, nd, gr, cl, ?_⟩
        rcases gl with gl | ⟨rfl, gl⟩
        · exact .inl gl
        · refine .inr ⟨rfl, fun s ex' hs hs2 hs3 => ?_⟩
          by_cases ej : s = j
          · subst ej
            rw [hex] at hs2; cases hs2
            exact hz hs3
          · exact gl s ex' (by omega) hs2 hs3
      by_cases hj : j ∈ gs
      · simp only [hj, decide_true, Bool.not_true, if_false, Bool.false_eq_true]
        exact no h'' (.refl _) fun z => absurd hj z
      · simp only [hj, decide_false, Bool.not_false, if_true]
        simp only [exD, wpB, wpS, wpE, wpA, wpO, wpC, wpI, tg_name, tg_nil, tg_cons, o_add, o_addT, o_addL, o_addS, o_sub, o_mul, o_mulT, o_neB, o_isnotB, o_isB, o_fdiv, o_mod, o_pow, o_eqI, o_neI, o_lt, o_le, o_gt, o_ge, o_is, o_isnot, o_in, o_notin, f_abs, f_str, f_int, f_isi, f_len, f_tuple, f_list, asInt_int, ty_append, ty_extend, ty_update, ty_count, ty_index, Lit.d, truth_bl, truth_non, truth_int, truth_tup, seqD_tup, lenD_tup, tyD_bl, tyD_int, tyD_str, tyD_non, tyD_tup, List.getElem?_cons_zero, List.getElem?_cons_succ, List.set_cons_zero, List.set_cons_succ, Option.some.injEq, exists_eq_left', List.map_cons, List.map_nil, List.cons_append, List.nil_append, List.length_cons, List.length_nil, List.replicate, setAll, wipeD, if_true, if_false, Bool.false_eq_true]
        intro r hr
        refine lost_any (b := b) (hl := hlen) hg2 (own := []) ?_ hr ?_
        · intro h3 e3
          simp only [truth_bl, Option.some.injEq, exists_eq_left']
          split
          · rename_i hgood
            simp only [b__law_lost_5, wpB, wpS, wpE, wpA, wpO, wpC, wpI, tg_name, tg_nil, tg_cons, o_add, o_addT, o_addL, o_addS, o_sub, o_mul, o_mulT, o_neB, o_isnotB, o_isB, o_fdiv, o_mod, o_pow, o_eqI, o_neI, o_lt, o_le, o_gt, o_ge, o_is, o_isnot, o_in, o_notin, f_abs, f_str, f_int, f_isi, f_len, f_tuple, f_list, asInt_int, ty_append, ty_extend, ty_update, ty_count, ty_index, Lit.d, truth_bl, truth_non, truth_int, truth_tup, seqD_tup, lenD_tup, tyD_bl, tyD_int, tyD_str, tyD_non, tyD_tup, List.getElem?_cons_zero, List.getElem?_cons_succ, List.set_cons_zero, List.set_cons_succ, Option.some.injEq, exists_eq_left', List.map_cons, List.map_nil, List.cons_append, List.nil_append, List.length_cons, List.length_nil, List.replicate, setAll, wipeD, if_true, if_false, Bool.false_eq_true, tyD_lst (e3 _ _ hg2), m_append]
            refine ⟨trivial, _, e3 _ _ hg2, ?_, ?_⟩
            · rw [List.length_map]
              exact szl (Nat.le_trans (nodup_len _ gs nd fun s hs => (gr s hs).lt) (by omega))
            · have rj : Reach b j := goodEx_reach hex gr hgood
              refine hk2 _ _ ⟨⟨_, _, rfl⟩, (e2.trans e3).wr hg, gs ++ [j], ?_, ?_, ?_, ?_, ?_⟩
              · rw [up_same]; simp
              · rw [List.nodup_append]
                exact ⟨nd, by simp, fun a ha b hb => by
                  obtain rfl : b = j := by simpa using hb
                  rintro rfl; exact hj ha⟩
              · intro s hs
                rcases List.mem_append.mp hs with hs | hs
                · exact gr s hs
                · obtain rfl : s = j := by simpa using hs
                  exact rj
              · intro c
                have := c.reach rj
                rw [← cl c] at this
                exact absurd this hj
              · rcases gl with gl | ⟨rfl, gl⟩
                · exact .inl (by rw [List.length_append]; omega)
                · exact .inl (by rw [List.length_append]; simp)
          · rename_i hgood
            exact no h3 e3 fun _ => by simpa using hgood
        · intro pl h4 kk hpl e4 hk4
          have hg4 := e4 _ _ hg2
          simp only [plD, wpB, wpS, wpE, wpA, wpO, wpC, wpI, tg_name, tg_nil, tg_cons, o_add, o_addT, o_addL, o_addS, o_sub, o_mul, o_mulT, o_neB, o_isnotB, o_isB, o_fdiv, o_mod, o_pow, o_eqI, o_neI, o_lt, o_le, o_gt, o_ge, o_is, o_isnot, o_in, o_notin, f_abs, f_str, f_int, f_isi, f_len, f_tuple, f_list, asInt_int, ty_append, ty_extend, ty_update, ty_count, ty_index, Lit.d, truth_bl, truth_non, truth_int, truth_tup, seqD_tup, lenD_tup, tyD_bl, tyD_int, tyD_str, tyD_non, tyD_tup, List.getElem?_cons_zero, List.getElem?_cons_succ, List.set_cons_zero, List.set_cons_succ, Option.some.injEq, exists_eq_left', List.map_cons, List.map_nil, List.cons_append, List.nil_append, List.length_cons, List.length_nil, List.replicate, setAll, wipeD, if_true, if_false, Bool.false_eq_true, ix_tup, atI_0, atI_1, eq_cup, mem_ints hg4]
          have := hk4 h4 (.refl _)
          obtain ⟨c, n⟩ := pl
          cases c <;> simpa using this
    · rintro σ'' h'' ⟨⟨o3, o4, rfl⟩, e2, gs, hg2, nd, gr, cl, gl⟩
      refine hk _ _ ⟨⟨_, _, _, rfl⟩, e2, gs, hg2, nd, gr, ?_⟩
      rcases cl0 with c | c
      · rw [cl c]; exact .inl c
      · rcases gl with gl | ⟨rfl, gl⟩
        · exact .inr (by omega)
        · refine .inl fun s ex hs hs2 => goodEx_closed (gl s ex ?_ hs hs2)
          have := (List.getElem?_eq_some_iff.mp hs).1
          simpa using this
  · rintro σ' h' ⟨⟨o2, o3, o4, rfl⟩, e, gs, hg2, nd, gr, cl⟩
    have iff : ∀ s, Reach b s ↔ s ∈ gs := fun s => ⟨fun r => by
      rcases cl with c | c
      · exact c.reach r
      · exact nodup_all nd (fun s hs => (gr s hs).lt) (by simpa using c) r.lt, gr s⟩
    simp only [b__law_lost_6, wpB, wpS, wpE, wpA, wpO, wpC, wpI, tg_name, tg_nil, tg_cons, o_add, o_addT, o_addL, o_addS, o_sub, o_mul, o_mulT, o_neB, o_isnotB, o_isB, o_fdiv, o_mod, o_pow, o_eqI, o_neI, o_lt, o_le, o_gt, o_ge, o_is, o_isnot, o_in, o_notin, f_abs, f_str, f_int, f_isi, f_len, f_tuple, f_list, asInt_int, ty_append, ty_extend, ty_update, ty_count, ty_index, Lit.d, truth_bl, truth_non, truth_int, truth_tup, seqD_tup, lenD_tup, tyD_bl, tyD_int, tyD_str, tyD_non, tyD_tup, List.getElem?_cons_zero, List.getElem?_cons_succ, List.set_cons_zero, List.set_cons_succ, Option.some.injEq, exists_eq_left', List.map_cons, List.map_nil, List.cons_append, List.nil_append, List.length_cons, List.length_nil, List.replicate, setAll, wipeD, if_true, if_false, Bool.false_eq_true, ix_tup, atI_1, List.length_map]
    refine ⟨by omega, by omega, fun p hp => ?_⟩
    refine lost_comp hp iff hn ?_ ?_
    · intro s h2 k e2 hk
      simp only [wpB, wpS, wpE, wpA, wpO, wpC, wpI, tg_name, tg_nil, tg_cons, o_add, o_addT, o_addL, o_addS, o_sub, o_mul, o_mulT, o_neB, o_isnotB, o_isB, o_fdiv, o_mod, o_pow, o_eqI, o_neI, o_lt, o_le, o_gt, o_ge, o_is, o_isnot, o_in, o_notin, f_abs, f_str, f_int, f_isi, f_len, f_tuple, f_list, asInt_int, ty_append, ty_extend, ty_update, ty_count, ty_index, Lit.d, truth_bl, truth_non, truth_int, truth_tup, seqD_tup, lenD_tup, tyD_bl, tyD_int, tyD_str, tyD_non, tyD_tup, List.getElem?_cons_zero, List.getElem?_cons_succ, List.set_cons_zero, List.set_cons_succ, Option.some.injEq, exists_eq_left', List.map_cons, List.map_nil, List.cons_append, List.nil_append, List.length_cons, List.length_nil, List.replicate, setAll, wipeD, if_true, if_false, Bool.false_eq_true, mem_ints (e2 _ _ hg2)]
      by_cases hs : s ∈ gs
      · simpa [hs] using hk
      · simpa [hs] using hk
    · intro h2 e2 hp2
      refine q p h2 (e.trans e2) ?_ hp2
      cases z : h p with
      | none => rfl
      | some c => have := e _ _ z; rw [hp] at this; cases this
end Mp
namespace Mp
def kv (gs : List Nat) : List (D × D) := gs.map fun s : Nat => (D.int s, D.bl true)
theorem eqv_nat (a b : Nat) : eqv (.int a) (.int b) = decide (a = b) := by
  show ((a : Int) == (b : Int)) = _
  rw [Bool.eq_iff_iff]
  simp only [beq_iff_eq, decide_eq_true_eq]
  omega
theorem kv_any (gs : List Nat) (s : Nat) : ((kv gs).any fun p => eqv p.1 (.int s)) = decide (s ∈ gs) := by
  induction gs with
  | nil => rfl
  | cons g gs ih =>
    show (eqv (.int g) (.int s) || (kv gs).any fun p => eqv p.1 (.int s)) = _
    rw [ih, eqv_nat]
    by_cases e : g = s
    · simp [e]
    · simp [e, Ne.symm e]
theorem mem_kv {h : Hh} {g : Nat} {gs : List Nat} {s : Nat} {P : Bool → Prop} (e : h g = some (.dct (kv gs))) : memD h (.int s) (.ref g) P = P (decide (s ∈ gs)) := by
  rw [mem_dct e, kv_any]
  exact propext ⟨fun h => h.2, fun h => ⟨rfl, h⟩⟩
theorem stor_new {gs : List Nat} {s : Nat} (h : s ∉ gs) : stor (kv gs) (.int s) (.bl true) = kv (gs ++ [s]) := by
  unfold stor
  rw [kv_any, if_neg (by simpa using h)]
  unfold kv
  rw [List.map_append]; rfl
theorem fold_kv : ∀ (ms gs : List Nat), (gs ++ ms).Nodup → (kv ms).foldl (fun acc p => stor acc p.1 p.2) (kv gs) = kv (gs ++ ms)
  | [], gs, _ => by rw [List.append_nil]; rfl
  | m :: ms, gs, nd => by
    show (kv ms).foldl _ (stor (kv gs) (.int m) (.bl true)) = _
    have h := List.nodup_append.mp nd
    rw [stor_new fun z => h.2.2 m z m List.mem_cons_self rfl, fold_kv ms (gs ++ [m]) (by simpa using nd)]
    simp
open Classical in
theorem sp_raw_lost {b : Bd} {mc ms me : Nat} {h : Hh} {X : PX} {Q : PV} (hb : b.Ok mc ms me) (hms : ms ≤ 1000) (hme : me ≤ 1000) (q : ∀ p h', Ext h h' → h p = none → h' p = some (.lst ((lostL b).map fun n : Nat => .int n)) → Q (.ref p) h') : wpF fn_raw_lost [bdD b] h X Q := by
  simp only [fn_raw_lost, b_raw_lost_1, bdD, wpF, wpB, wpS, wpE, wpA, wpO, wpC, wpI, tg_name, tg_nil, tg_cons, o_add, o_addT, o_addL, o_addS, o_sub, o_mul, o_mulT, o_neB, o_isnotB, o_isB, o_fdiv, o_mod, o_pow, o_eqI, o_neI, o_lt, o_le, o_gt, o_ge, o_is, o_isnot, o_in, o_notin, f_abs, f_str, f_int, f_isi, f_len, f_tuple, f_list, asInt_int, ty_append, ty_extend, ty_update, ty_count, ty_index, Lit.d, truth_bl, truth_non, truth_int, truth_tup, seqD_tup, lenD_tup, tyD_bl, tyD_int, tyD_str, tyD_non, tyD_tup, List.getElem?_cons_zero, List.getElem?_cons_succ, List.set_cons_zero, List.set_cons_succ, Option.some.injEq, exists_eq_left', List.map_cons, List.map_nil, List.cons_append, List.nil_append, List.length_cons, List.length_nil, List.replicate, setAll, wipeD, if_true, if_false, Bool.false_eq_true]
  refine ⟨trivial, fun g hg => ⟨by decide, ?_⟩⟩
  simp only [b_raw_lost_2, wpB, wpS, wpE, wpA, wpO, wpC, wpI, tg_name, tg_nil, tg_cons, o_add, o_addT, o_addL, o_addS, o_sub, o_mul, o_mulT, o_neB, o_isnotB, o_isB, o_fdiv, o_mod, o_pow, o_eqI, o_neI, o_lt, o_le, o_gt, o_ge, o_is, o_isnot, o_in, o_notin, f_abs, f_str, f_int, f_isi, f_len, f_tuple, f_list, asInt_int, ty_append, ty_extend, ty_update, ty_count, ty_index, Lit.d, truth_bl, truth_non, truth_int, truth_tup, seqD_tup, lenD_tup, tyD_bl, tyD_int, tyD_str, tyD_non, tyD_tup, List.getElem?_cons_zero, List.getElem?_cons_succ, List.set_cons_zero, List.set_cons_succ, Option.some.injEq, exists_eq_left', List.map_cons, List.map_nil, List.cons_append, List.nil_append, List.length_cons, List.length_nil, List.replicate, setAll, wipeD, if_true, if_false, Bool.false_eq_true]
  have hn : b.sw.length ≤ 1000 := Nat.le_trans hb.s1 hms
  refine whl_inv (fun m σ' h' => ∃ o3 o4 o5, ∃ t : Bool, ∃ gs : List Nat, σ' = [some (D.tup [D.int ↑b.cups, D.tup (List.map exD b.sw)]), some (D.ref g), some (.bl t), o3, o4, o5, none, none] ∧ Ext h h' ∧ h' g = some (.dct (kv gs)) ∧ gs.Nodup ∧ (∀ s ∈ gs, Reach b s) ∧ (t = false → Closed b gs) ∧
    m = if t = true then b.sw.length - gs.length + 1 else 0) ?_ (m := b.sw.length - 0 + 1) ⟨_, _, _, true, [], rfl, .up hg, up_same, List.nodup_nil, fun _ z => absurd z List.not_mem_nil, (fun z => by cases z), rfl⟩
  rintro m σ' h' k ⟨o3, o4, o5, t, gs, rfl, e, hg1, nd, gr, cl, hm⟩ hk
  simp only [wpB, wpS, wpE, wpA, wpO, wpC, wpI, tg_name, tg_nil, tg_cons, o_add, o_addT, o_addL, o_addS, o_sub, o_mul, o_mulT, o_neB, o_isnotB, o_isB, o_fdiv, o_mod, o_pow, o_eqI, o_neI, o_lt, o_le, o_gt, o_ge, o_is, o_isnot, o_in, o_notin, f_abs, f_str, f_int, f_isi, f_len, f_tuple, f_list, asInt_int, ty_append, ty_extend, ty_update, ty_count, ty_index, Lit.d, truth_bl, truth_non, truth_int, truth_tup, seqD_tup, lenD_tup, tyD_bl, tyD_int, tyD_str, tyD_non, tyD_tup, List.getElem?_cons_zero, List.getElem?_cons_succ, List.set_cons_zero, List.set_cons_succ, Option.some.injEq, exists_eq_left', List.map_cons, List.map_nil, List.cons_append, List.nil_append, List.length_cons, List.length_nil, List.replicate, setAll, wipeD, if_true, if_false, Bool.false_eq_true]
  cases t with
  | false =>
    have iff : ∀ s, Reach b s ↔ s ∈ gs := fun s => ⟨(cl rfl).reach, gr s⟩
    simp only [Bool.false_eq_true, if_false, b_raw_lost_9, wpB, wpS, wpE, wpA, wpO, wpC, wpI, tg_name, tg_nil, tg_cons, o_add, o_addT, o_addL, o_addS, o_sub, o_mul, o_mulT, o_neB, o_isnotB, o_isB, o_fdiv, o_mod, o_pow, o_eqI, o_neI, o_lt, o_le, o_gt, o_ge, o_is, o_isnot, o_in, o_notin, f_abs, f_str, f_int, f_isi, f_len, f_tuple, f_list, asInt_int, ty_append, ty_extend, ty_update, ty_count, ty_index, Lit.d, truth_bl, truth_non, truth_int, truth_tup, seqD_tup, lenD_tup, tyD_bl, tyD_int, tyD_str, tyD_non, tyD_tup, List.getElem?_cons_zero, List.getElem?_cons_succ, List.set_cons_zero, List.set_cons_succ, Option.some.injEq, exists_eq_left', List.map_cons, List.map_nil, List.cons_append, List.nil_append, List.length_cons, List.length_nil, List.replicate, setAll, wipeD, if_true, if_false, Bool.false_eq_true, ix_tup, atI_1, List.length_map]
    refine ⟨by omega, by omega, fun p hp => ?_⟩
    refine lost_comp hp iff hn ?_ ?_
    · intro s h2 k e2 hk
      simp only [wpB, wpS, wpE, wpA, wpO, wpC, wpI, tg_name, tg_nil, tg_cons, o_add, o_addT, o_addL, o_addS, o_sub, o_mul, o_mulT, o_neB, o_isnotB, o_isB, o_fdiv, o_mod, o_pow, o_eqI, o_neI, o_lt, o_le, o_gt, o_ge, o_is, o_isnot, o_in, o_notin, f_abs, f_str, f_int, f_isi, f_len, f_tuple, f_list, asInt_int, ty_append, ty_extend, ty_update, ty_count, ty_index, Lit.d, truth_bl, truth_non, truth_int, truth_tup, seqD_tup, lenD_tup, tyD_bl, tyD_int, tyD_str, tyD_non, tyD_tup, List.getElem?_cons_zero, List.getElem?_cons_succ, List.set_cons_zero, List.set_cons_succ, Option.some.injEq, exists_eq_left', List.map_cons, List.map_nil, List.cons_append, List.nil_append, List.length_cons, List.length_nil, List.replicate, setAll, wipeD, if_true, if_false, Bool.false_eq_true, mem_kv (e2 _ _ hg1)]
      by_cases hs : s ∈ gs
      · simpa [hs] using hk
      · simpa [hs] using hk
    · intro h2 e2 hp2
      refine q p h2 (e.trans e2) ?_ hp2
      cases z : h p with
      | none => rfl
      | some c => have := e _ _ z; rw [hp] at this; cases this
  | true =>
    simp only [if_true, b_raw_lost_3, wpB, wpS, wpE, wpA, wpO, wpC, wpI, tg_name, tg_nil, tg_cons, o_add, o_addT, o_addL, o_addS, o_sub, o_mul, o_mulT, o_neB, o_isnotB, o_isB, o_fdiv, o_mod, o_pow, o_eqI, o_neI, o_lt, o_le, o_gt, o_ge, o_is, o_isnot, o_in, o_notin, f_abs, f_str, f_int, f_isi, f_len, f_tuple, f_list, asInt_int, ty_append, ty_extend, ty_update, ty_count, ty_index, Lit.d, truth_bl, truth_non, truth_int, truth_tup, seqD_tup, lenD_tup, tyD_bl, tyD_int, tyD_str, tyD_non, tyD_tup, List.getElem?_cons_zero, List.getElem?_cons_succ, List.set_cons_zero, List.set_cons_succ, Option.some.injEq, exists_eq_left', List.map_cons, List.map_nil, List.cons_append, List.nil_append, List.length_cons, List.length_nil, List.replicate, setAll, wipeD, if_true, if_false, Bool.false_eq_true]
    refine ⟨by decide, fun r hr => ?_⟩
    have hr0 : h r = none := by
      cases z : h r with
      | none => rfl
      | some c => have := e _ _ z; rw [hr] at this; cases this
    have ngr : g ≠ r := ne_fresh hg1 hr
    simp only [b_raw_lost_4, wpB, wpS, wpE, wpA, wpO, wpC, wpI, tg_name, tg_nil, tg_cons, o_add, o_addT, o_addL, o_addS, o_sub, o_mul, o_mulT, o_neB, o_isnotB, o_isB, o_fdiv, o_mod, o_pow, o_eqI, o_neI, o_lt, o_le, o_gt, o_ge, o_is, o_isnot, o_in, o_notin, f_abs, f_str, f_int, f_isi, f_len, f_tuple, f_list, asInt_int, ty_append, ty_extend, ty_update, ty_count, ty_index, Lit.d, truth_bl, truth_non, truth_int, truth_tup, seqD_tup, lenD_tup, tyD_bl, tyD_int, tyD_str, tyD_non, tyD_tup, List.getElem?_cons_zero, List.getElem?_cons_succ, List.set_cons_zero, List.set_cons_succ, Option.some.injEq, exists_eq_left', List.map_cons, List.map_nil, List.cons_append, List.nil_append, List.length_cons, List.length_nil, List.replicate, setAll, wipeD, if_true, if_false, Bool.false_eq_true, ix_tup, atI_1]
    refine itr_inv (fun j σ'' h'' => (∃ o4 o5, σ'' = [some (D.tup [D.int ↑b.cups, D.tup (List.map exD b.sw)]), some (D.ref g), some (.bl true), some (.ref r), o4, o5, none, none]) ∧ Ext h h'' ∧ h'' g = some (.dct (kv gs)) ∧ ∃ ms : List Nat, h'' r = some (.lst (ms.map fun n : Nat => .int n)) ∧ ms.Nodup ∧
      (∀ s ∈ ms, s < j ∧ s ∉ gs ∧ Reach b s) ∧ ∀ (s : Nat) (ex : List (Bool × Nat)), s < j → b.sw[s]? = some ex → s ∉ gs → s ∉ ms → goodEx gs ex = false)
      (fun _ _ h _ => GOk_nil h) ?_ ?_ ⟨⟨_, _, rfl⟩, e.wr hr0, by rw [up_ne ngr]; exact hg1, [], up_same, List.nodup_nil, fun _ z => absurd z List.not_mem_nil, fun s ex z => absurd z (Nat.not_lt_zero _)⟩
    · rintro j y σ'' h'' k2 hy ⟨⟨o4, o5, rfl⟩, e2, hg2, ms, hr2, ndm, mr, mc⟩ hk2
      rw [List.getElem?_mapIdx, List.getElem?_map] at hy
      obtain ⟨x2, hx2, rfl⟩ := Option.map_eq_some_iff.mp hy
      obtain ⟨ex, hex, rfl⟩ := Option.map_eq_some_iff.mp hx2
      have hlt : j < b.sw.length := (List.getElem?_eq_some_iff.mp hex).1
      have hlen : ex.length ≤ 1000 := Nat.le_trans (hb.ex ex (List.mem_of_getElem? hex)).2.1 hme
      have hjm : j ∉ ms := fun z => absurd (mr j z).1 (Nat.lt_irrefl _)
      simp only [b_raw_lost_5, wpB, wpS, wpE, wpA, wpO, wpC, wpI, tg_name, tg_nil, tg_cons, o_add, o_addT, o_addL, o_addS, o_sub, o_mul, o_mulT, o_neB, o_isnotB, o_isB, o_fdiv, o_mod, o_pow, o_eqI, o_neI, o_lt, o_le, o_gt, o_ge, o_is, o_isnot, o_in, o_notin, f_abs, f_str, f_int, f_isi, f_len, f_tuple, f_list, asInt_int, ty_append, ty_extend, ty_update, ty_count, ty_index, Lit.d, truth_bl, truth_non, truth_int, truth_tup, seqD_tup, lenD_tup, tyD_bl, tyD_int, tyD_str, tyD_non, tyD_tup, List.getElem?_cons_zero, List.getElem?_cons_succ, List.set_cons_zero, List.set_cons_succ, Option.some.injEq, exists_eq_left', List.map_cons, List.map_nil, List.cons_append, List.nil_append, List.length_cons, List.length_nil, List.replicate, setAll, wipeD, if_true, if_false, Bool.false_eq_true, mem_kv hg2]
      have no : ∀ h3, Ext h'' h3 → (j ∉ gs → goodEx gs ex = false) → k2 [some (D.tup [D.int ↑b.cups, D.tup (List.map exD b.sw)]), some (D.ref g), some (.bl true), some (.ref r), some (.int j), some (exD ex), none, none] h3 := fun h3 e3 hz => by
        refine hk2 _ _ ⟨⟨_, _, rfl⟩, e2.trans e3, e3 _ _ hg2, ms, e3 _ _ hr2, ndm, fun s hs => ⟨Nat.lt_succ_of_lt (mr s hs).1, (mr s hs).2⟩, fun s ex' hs hs2 hs3 hs4 => ?_⟩
        by_cases ej : s = j
        · subst ej
          rw [hex] at hs2; cases hs2
          exact hz hs3
        · exact mc s ex' (by omega) hs2 hs3 hs4
      by_cases hj : j ∈ gs
      · simp only [hj, decide_true, Bool.not_true, if_false, Bool.false_eq_true]
        exact no h'' (.refl _) fun z => absurd hj z
      · simp only [hj, decide_false, Bool.not_false, if_true]
        simp only [exD, wpB, wpS, wpE, wpA, wpO, wpC, wpI, tg_name, tg_nil, tg_cons, o_add, o_addT, o_addL, o_addS, o_sub, o_mul, o_mulT, o_neB, o_isnotB, o_isB, o_fdiv, o_mod, o_pow, o_eqI, o_neI, o_lt, o_le, o_gt, o_ge, o_is, o_isnot, o_in, o_notin, f_abs, f_str, f_int, f_isi, f_len, f_tuple, f_list, asInt_int, ty_append, ty_extend, ty_update, ty_count, ty_index, Lit.d, truth_bl, truth_non, truth_int, truth_tup, seqD_tup, lenD_tup, tyD_bl, tyD_int, tyD_str, tyD_non, tyD_tup, List.getElem?_cons_zero, List.getElem?_cons_succ, List.set_cons_zero, List.set_cons_succ, Option.some.injEq, exists_eq_left', List.map_cons, List.map_nil, List.cons_append, List.nil_append, List.length_cons, List.length_nil, List.replicate, setAll, wipeD, if_true, if_false, Bool.false_eq_true]
        intro r2 hr2'
        refine lc_map hr2' (by rw [List.length_map]; omega) (fun x => match x with | .tup [.str s, .int n] => .bl (decide (s = sCup) || decide (n.toNat ∈ gs)) | _ => .non) (fun h' _ => GOk_nil h') ?_ ?_
        · intro x h4 kk hx e4 hk4
          obtain ⟨pl, hpl, rfl⟩ := List.mem_map.mp hx
          have hg4 := e4 _ _ hg2
          simp only [plD, wpB, wpS, wpE, wpA, wpO, wpC, wpI, tg_name, tg_nil, tg_cons, o_add, o_addT, o_addL, o_addS, o_sub, o_mul, o_mulT, o_neB, o_isnotB, o_isB, o_fdiv, o_mod, o_pow, o_eqI, o_neI, o_lt, o_le, o_gt, o_ge, o_is, o_isnot, o_in, o_notin, f_abs, f_str, f_int, f_isi, f_len, f_tuple, f_list, asInt_int, ty_append, ty_extend, ty_update, ty_count, ty_index, Lit.d, truth_bl, truth_non, truth_int, truth_tup, seqD_tup, lenD_tup, tyD_bl, tyD_int, tyD_str, tyD_non, tyD_tup, List.getElem?_cons_zero, List.getElem?_cons_succ, List.set_cons_zero, List.set_cons_succ, Option.some.injEq, exists_eq_left', List.map_cons, List.map_nil, List.cons_append, List.nil_append, List.length_cons, List.length_nil, List.replicate, setAll, wipeD, if_true, if_false, Bool.false_eq_true, eq_cup, mem_kv hg4]
          have := hk4 h4 (.refl _)
          obtain ⟨c, n⟩ := pl
          cases c <;> simpa [plD] using this
        · intro h3 e3 hp3
          have hbs : List.map (fun x => match x with | .tup [.str s, .int n] => .bl (decide (s = sCup) || decide (n.toNat ∈ gs)) | _ => .non) (ex.map plD) = (ex.map fun pl => pl.1 || decide (pl.2 ∈ gs)).map D.bl := by
            rw [List.map_map, List.map_map]
            refine List.map_congr_left fun pl _ => ?_
            obtain ⟨c, n⟩ := pl
            cases c <;> simp [plD]
          rw [hbs] at hp3
          rw [f_any]
          refine ⟨_, hp3, ?_⟩
          rw [List.any_map, show ex.any (id ∘ fun pl => pl.1 || decide (pl.2 ∈ gs)) = goodEx gs ex from rfl]
          simp only [truth_bl, Option.some.injEq, exists_eq_left']
          split
          · rename_i hgood
            simp only [b_raw_lost_6, wpB, wpS, wpE, wpA, wpO, wpC, wpI, tg_name, tg_nil, tg_cons, o_add, o_addT, o_addL, o_addS, o_sub, o_mul, o_mulT, o_neB, o_isnotB, o_isB, o_fdiv, o_mod, o_pow, o_eqI, o_neI, o_lt, o_le, o_gt, o_ge, o_is, o_isnot, o_in, o_notin, f_abs, f_str, f_int, f_isi, f_len, f_tuple, f_list, asInt_int, ty_append, ty_extend, ty_update, ty_count, ty_index, Lit.d, truth_bl, truth_non, truth_int, truth_tup, seqD_tup, lenD_tup, tyD_bl, tyD_int, tyD_str, tyD_non, tyD_tup, List.getElem?_cons_zero, List.getElem?_cons_succ, List.set_cons_zero, List.set_cons_succ, Option.some.injEq, exists_eq_left', List.map_cons, List.map_nil, List.cons_append, List.nil_append, List.length_cons, List.length_nil, List.replicate, setAll, wipeD, if_true, if_false, Bool.false_eq_true, tyD_lst (e3 _ _ hr2), m_append]
            refine ⟨trivial, _, e3 _ _ hr2, ?_, ?_⟩
            · rw [List.length_map]
              exact szl (Nat.le_trans (nodup_len _ ms ndm fun s hs => (mr s hs).1) (by omega))
            · have rj : Reach b j := goodEx_reach hex gr hgood
              refine hk2 _ _ ⟨⟨_, _, rfl⟩, (e2.trans e3).wr hr0, by rw [up_ne ngr]; exact e3 _ _ hg2, ms ++ [j], ?_, ?_, ?_, ?_⟩
              · rw [up_same]; simp
              · rw [List.nodup_append]
                exact ⟨ndm, by simp, fun a ha b hb => by
                  obtain rfl : b = j := by simpa using hb
                  rintro rfl; exact hjm ha⟩
              · intro s hs
                rcases List.mem_append.mp hs with hs | hs
                · exact ⟨Nat.lt_succ_of_lt (mr s hs).1, (mr s hs).2⟩
                · obtain rfl : s = j := by simpa using hs
                  exact ⟨Nat.lt_succ_self _, hj, rj⟩
              · intro s ex' hs hs2 hs3 hs4
                by_cases ej : s = j
                · subst ej
                  exact absurd (List.mem_append_right _ (List.mem_singleton.mpr rfl)) hs4
                · exact mc s ex' (by omega) hs2 hs3 fun z => hs4 (List.mem_append_left _ z)
          · rename_i hgood
            exact no h3 e3 fun _ => by simpa using hgood
    · rintro σ'' h'' ⟨⟨o4, o5, rfl⟩, e2, hg2, ms, hr2, ndm, mr, mc⟩
      have hml : ms.length ≤ 1000 := Nat.le_trans (nodup_len b.sw.length ms ndm fun s hs => (mr s hs).2.2.lt) hn
      have hgl : gs.length ≤ 1000 := Nat.le_trans (nodup_len b.sw.length gs nd fun s hs => (gr s hs).lt) hn
      have ndg : (gs ++ ms).Nodup := by
        rw [List.nodup_append]
        exact ⟨nd, ndm, fun a ha b hb => by rintro rfl; exact (mr a hb).2.1 ha⟩
      have tg : tyD h'' (.ref g) = some .dict := by show (match h'' g with | some (.lst _) => _ | some (.rol _) => _ | some (.dct _) => _ | _ => _) = _; rw [hg2]
      simp only [b_raw_lost_7, wpB, wpS, wpE, wpA, wpO, wpC, wpI, tg_name, tg_nil, tg_cons, o_add, o_addT, o_addL, o_addS, o_sub, o_mul, o_mulT, o_neB, o_isnotB, o_isB, o_fdiv, o_mod, o_pow, o_eqI, o_neI, o_lt, o_le, o_gt, o_ge, o_is, o_isnot, o_in, o_notin, f_abs, f_str, f_int, f_isi, f_len, f_tuple, f_list, asInt_int, ty_append, ty_extend, ty_update, ty_count, ty_index, Lit.d, truth_bl, truth_non, truth_int, truth_tup, seqD_tup, lenD_tup, tyD_bl, tyD_int, tyD_str, tyD_non, tyD_tup, List.getElem?_cons_zero, List.getElem?_cons_succ, List.set_cons_zero, List.set_cons_succ, Option.some.injEq, exists_eq_left', List.map_cons, List.map_nil, List.cons_append, List.nil_append, List.length_cons, List.length_nil, List.replicate, setAll, wipeD, if_true, if_false, Bool.false_eq_true, tg]
      refine ⟨trivial, _, .inl hr2, fun p hp => ?_⟩
      have ngp : g ≠ p := ne_fresh hg2 hp
      have nrp : r ≠ p := ne_fresh hr2 hp
      refine itr_inv (fun j σ3 h3 => σ3 = [some (D.tup [D.int ↑b.cups, D.tup (List.map exD b.sw)]), some (D.ref g), some (.bl true), some (.ref r), o4, o5, none, none] ∧ Ext h'' h3 ∧ h3 p = some (.dct (kv (ms.take j)))) (fun _ _ h3 ⟨_, e3, _⟩ => fun z hz => by
        obtain rfl : z = (r, ms.map fun n : Nat => .int n) := by simpa using hz
        exact .inl (e3 _ _ hr2)) ?_ ?_ ⟨rfl, .up hp, up_same⟩
      · rintro j x σ3 h3 k3 hx ⟨rfl, e3, hp3⟩ hk3
        rw [List.getElem?_map] at hx
        obtain ⟨s, hs, rfl⟩ := Option.map_eq_some_iff.mp hx
        have ht : ms.take (j + 1) = ms.take j ++ [s] := by rw [List.take_add_one, hs]; rfl
        refine ⟨_, hp3, rfl, ?_, hk3 _ _ ⟨rfl, e3.wr hp, ?_⟩⟩
        · unfold kv; rw [List.length_map, List.length_take]; exact szl (by omega)
        · rw [up_same, stor_new, ht]
          have := List.nodup_append.mp (ht ▸ (List.take_sublist (j + 1) ms).nodup ndm)
          exact fun z => this.2.2 s z s (List.mem_singleton.mpr rfl) rfl
      · rintro σ3 h3 ⟨rfl, e3, hp3⟩
        rw [show (ms.map fun n : Nat => D.int n).length = ms.length by simp, List.take_length] at hp3
        rw [m_update]
        refine ⟨kv gs, kv ms, ngp, e3 _ _ hg2, hp3, by unfold kv; simp only [List.length_map]; exact szl2 (by omega), ?_⟩
        rw [fold_kv ms gs ndg]
        have hr4 : up h3 g (Cell.dct (kv (gs ++ ms))) r = some (.lst (ms.map fun n : Nat => .int n)) := by rw [up_ne (Ne.symm ngr)]; exact e3 _ _ hr2
        simp only [b_raw_lost_8, wpB, wpS, wpE, wpA, wpO, wpC, wpI, tg_name, tg_nil, tg_cons, o_add, o_addT, o_addL, o_addS, o_sub, o_mul, o_mulT, o_neB, o_isnotB, o_isB, o_fdiv, o_mod, o_pow, o_eqI, o_neI, o_lt, o_le, o_gt, o_ge, o_is, o_isnot, o_in, o_notin, f_abs, f_str, f_int, f_isi, f_len, f_tuple, f_list, asInt_int, ty_append, ty_extend, ty_update, ty_count, ty_index, Lit.d, truth_bl, truth_non, truth_int, truth_tup, seqD_tup, lenD_tup, tyD_bl, tyD_int, tyD_str, tyD_non, tyD_tup, List.getElem?_cons_zero, List.getElem?_cons_succ, List.set_cons_zero, List.set_cons_succ, Option.some.injEq, exists_eq_left', List.map_cons, List.map_nil, List.cons_append, List.nil_append, List.length_cons, List.length_nil, List.replicate, setAll, wipeD, if_true, if_false, Bool.false_eq_true, lenD_lst hr4, List.length_map]
        refine hk (if decide ((0 : Int) < ms.length) = true then b.sw.length - (gs ++ ms).length + 1 else 0) _ _ ?_ ⟨_, _, _, decide ((0 : Int) < ms.length), gs ++ ms, rfl, (e2.trans e3).wr hg, up_same, ndg, ?_, ?_, rfl⟩
        · have h1 := nodup_len b.sw.length (gs ++ ms) ndg fun s hs => by
            rcases List.mem_append.mp hs with hs | hs
            · exact (gr s hs).lt
            · exact (mr s hs).2.2.lt
          rw [List.length_append] at h1 ⊢
          simp only [if_true] at hm
          split
          · rename_i hpos
            have : 0 < ms.length := by simpa using hpos
            omega
          · omega
        · intro s hs
          rcases List.mem_append.mp hs with hs | hs
          · exact gr s hs
          · exact (mr s hs).2.2
        · intro hz
          have : ms = [] := by
            have : ms.length = 0 := by
              have : ¬ (0 : Int) < ms.length := by simpa using hz
              omega
            exact List.length_eq_zero_iff.mp this
          subst this
          rw [List.append_nil]
          exact fun s ex hs hs2 => goodEx_closed (mc s ex (by
            have := (List.getElem?_eq_some_iff.mp hs).1
            simpa using this) hs hs2 List.not_mem_nil)
end Mp
namespace Mp
/-! ### places of rest, all hands -/
noncomputable def restL (b : Bd) : List (Bool × Nat) := ((List.range b.cups).map fun c => (true, c)) ++ (lostL b).map fun s => (false, s)
theorem fresh_of {h h' : Hh} {p : Nat} (e : Ext h h') (n : h' p = none) : h p = none := by
  cases z : h p with
  | none => rfl
  | some c => have := e _ _ z; rw [n] at this; cases this
open Classical in
theorem sp__law_rests {b : Bd} {mc ms me : Nat} {h : Hh} {X : PX} {Q : PV} (hb : b.Ok mc ms me) (hmc : mc ≤ 1000) (hms : ms ≤ 1000) (hme : me ≤ 1000) (q : ∀ p h', Ext h h' → h p = none → h' p = some (.lst ((restL b).map plD)) → Q (.ref p) h') : wpF fn__law_rests [bdD b] h X Q := by
  simp only [fn__law_rests, b__law_rests_1, wpF, wpB, wpS, wpE, wpA, wpO, wpC, wpI, tg_name, tg_nil, tg_cons, o_add, o_addT, o_addL, o_addS, o_sub, o_mul, o_mulT, o_neB, o_isnotB, o_isB, o_fdiv, o_mod, o_pow, o_eqI, o_neI, o_lt, o_le, o_gt, o_ge, o_is, o_isnot, o_in, o_notin, f_abs, f_str, f_int, f_isi, f_len, f_tuple, f_list, asInt_int, ty_append, ty_extend, ty_update, ty_count, ty_index, Lit.d, truth_bl, truth_non, truth_int, truth_tup, seqD_tup, lenD_tup, tyD_bl, tyD_int, tyD_str, tyD_non, tyD_tup, List.getElem?_cons_zero, List.getElem?_cons_succ, List.set_cons_zero, List.set_cons_succ, Option.some.injEq, exists_eq_left', List.map_cons, List.map_nil, List.cons_append, List.nil_append, List.length_cons, List.length_nil, List.replicate, setAll, wipeD, if_true, if_false, Bool.false_eq_true]
  have hc : b.cups ≤ 1000 := Nat.le_trans hb.c1 hmc
  have hn : b.sw.length ≤ 1000 := Nat.le_trans hb.s1 hms
  refine ⟨trivial, ?_⟩
  simp only [bdD, o_add, o_addT, o_addL, o_addS, o_sub, o_mul, o_mulT, o_neB, o_isnotB, o_isB, o_fdiv, o_mod, o_pow, o_eqI, o_neI, o_lt, o_le, o_gt, o_ge, o_is, o_isnot, o_in, o_notin, f_abs, f_str, f_int, f_isi, f_len, f_tuple, f_list, asInt_int, ty_append, ty_extend, ty_update, ty_count, ty_index, Lit.d, truth_bl, truth_non, truth_int, truth_tup, seqD_tup, lenD_tup, tyD_bl, tyD_int, tyD_str, tyD_non, tyD_tup, List.getElem?_cons_zero, List.getElem?_cons_succ, List.set_cons_zero, List.set_cons_succ, Option.some.injEq, exists_eq_left', List.map_cons, List.map_nil, List.cons_append, List.nil_append, List.length_cons, List.length_nil, List.replicate, setAll, wipeD, if_true, if_false, Bool.false_eq_true, ix_tup, atI_0]
  refine ⟨by omega, by omega, fun p hp => ?_⟩
  rw [Int.toNat_natCast]
  refine lc_map hp (by simp; omega) (fun x => .tup [.str sCup, x]) (fun h' _ => GOk_nil h') ?_ ?_
  · intro x h1 k hx e hk
    exact ⟨by decide, hk h1 (.refl _)⟩
  · intro h1 e1 hp1
    have hlost := @sp__law_lost b mc ms me h1 X
    unfold bdD at hlost
    refine hlost hb hms hme fun r h2 e2 hr hr2 => ⟨_, .inl hr2, fun s hs => ?_⟩
    refine lc_map hs (by
      rw [List.length_map]
      unfold lostL
      exact Nat.le_trans (List.length_filter_le ..) (by simp; omega)) (fun x => .tup [.str sSw, x]) (fun h' e' z hz => by
        obtain rfl : z = (r, (lostL b).map fun n : Nat => .int n) := by simpa using hz
        exact .inl (e' _ _ hr2)) ?_ ?_
    · intro x h3 k hx e hk
      exact ⟨by decide, hk h3 (.refl _)⟩
    · intro h3 e3 hs3
      refine ⟨_, _, e3 _ _ (e2 _ _ hp1), hs3, ?_, fun t ht => ?_⟩
      · rw [List.length_map, List.length_map, List.length_map, List.length_map, List.length_range]
        have : (lostL b).length ≤ b.sw.length := by
          unfold lostL
          exact Nat.le_trans (List.length_filter_le ..) (by simp)
        exact szl2 (by omega)
      · refine q t _ (((e1.trans e2).trans e3).trans (.up ht)) ?_ ?_
        · cases z : h t with
          | none => rfl
          | some c => have := ((e1.trans e2).trans e3) _ _ z; rw [ht] at this; cases this
        · rw [up_same]
          unfold restL
          rw [List.map_append, List.map_map, List.map_map, List.map_map, List.map_map]
          rfl
open Classical in
theorem sp_raw_all_rests {b : Bd} {mc ms me : Nat} {h : Hh} {X : PX} {Q : PV} (hb : b.Ok mc ms me) (hmc : mc ≤ 1000) (hms : ms ≤ 1000) (hme : me ≤ 1000) (q : ∀ p h', Ext h h' → h p = none → h' p = some (.lst ((restL b).map plD)) → Q (.ref p) h') : wpF fn_raw_all_rests [bdD b] h X Q := by
  simp only [fn_raw_all_rests, b_raw_all_rests_1, wpF, wpB, wpS, wpE, wpA, wpO, wpC, wpI, tg_name, tg_nil, tg_cons, o_add, o_addT, o_addL, o_addS, o_sub, o_mul, o_mulT, o_neB, o_isnotB, o_isB, o_fdiv, o_mod, o_pow, o_eqI, o_neI, o_lt, o_le, o_gt, o_ge, o_is, o_isnot, o_in, o_notin, f_abs, f_str, f_int, f_isi, f_len, f_tuple, f_list, asInt_int, ty_append, ty_extend, ty_update, ty_count, ty_index, Lit.d, truth_bl, truth_non, truth_int, truth_tup, seqD_tup, lenD_tup, tyD_bl, tyD_int, tyD_str, tyD_non, tyD_tup, List.getElem?_cons_zero, List.getElem?_cons_succ, List.set_cons_zero, List.set_cons_succ, Option.some.injEq, exists_eq_left', List.map_cons, List.map_nil, List.cons_append, List.nil_append, List.length_cons, List.length_nil, List.replicate, setAll, wipeD, if_true, if_false, Bool.false_eq_true]
  have hc : b.cups ≤ 1000 := Nat.le_trans hb.c1 hmc
  have hn : b.sw.length ≤ 1000 := Nat.le_trans hb.s1 hms
  refine ⟨trivial, ?_⟩
  simp only [bdD, o_add, o_addT, o_addL, o_addS, o_sub, o_mul, o_mulT, o_neB, o_isnotB, o_isB, o_fdiv, o_mod, o_pow, o_eqI, o_neI, o_lt, o_le, o_gt, o_ge, o_is, o_isnot, o_in, o_notin, f_abs, f_str, f_int, f_isi, f_len, f_tuple, f_list, asInt_int, ty_append, ty_extend, ty_update, ty_count, ty_index, Lit.d, truth_bl, truth_non, truth_int, truth_tup, seqD_tup, lenD_tup, tyD_bl, tyD_int, tyD_str, tyD_non, tyD_tup, List.getElem?_cons_zero, List.getElem?_cons_succ, List.set_cons_zero, List.set_cons_succ, Option.some.injEq, exists_eq_left', List.map_cons, List.map_nil, List.cons_append, List.nil_append, List.length_cons, List.length_nil, List.replicate, setAll, wipeD, if_true, if_false, Bool.false_eq_true, ix_tup, atI_0]
  refine ⟨by omega, by omega, fun p hp => ?_⟩
  rw [Int.toNat_natCast]
  refine lc_map hp (by simp; omega) (fun x => .tup [.str sCup, x]) (fun h' _ => GOk_nil h') ?_ ?_
  · intro x h1 k hx e hk
    exact ⟨by decide, hk h1 (.refl _)⟩
  · intro h1 e1 hp1
    have hlost := @sp_raw_lost b mc ms me h1 X
    unfold bdD at hlost
    refine hlost hb hms hme fun r h2 e2 hr hr2 => ⟨_, .inl hr2, fun s hs => ?_⟩
    refine lc_map hs (by
      rw [List.length_map]
      unfold lostL
      exact Nat.le_trans (List.length_filter_le ..) (by simp; omega)) (fun x => .tup [.str sSw, x]) (fun h' e' z hz => by
        obtain rfl : z = (r, (lostL b).map fun n : Nat => .int n) := by simpa using hz
        exact .inl (e' _ _ hr2)) ?_ ?_
    · intro x h3 k hx e hk
      exact ⟨by decide, hk h3 (.refl _)⟩
    · intro h3 e3 hs3
      refine ⟨_, _, e3 _ _ (e2 _ _ hp1), hs3, ?_, fun t ht => ?_⟩
      · rw [List.length_map, List.length_map, List.length_map, List.length_map, List.length_range]
        have : (lostL b).length ≤ b.sw.length := by
          unfold lostL
          exact Nat.le_trans (List.length_filter_le ..) (by simp)
        exact szl2 (by omega)
      · refine q t _ (((e1.trans e2).trans e3).trans (.up ht)) ?_ ?_
        · cases z : h t with
          | none => rfl
          | some c => have := ((e1.trans e2).trans e3) _ _ z; rw [ht] at this; cases this
        · rw [up_same]
          unfold restL
          rw [List.map_append, List.map_map, List.map_map, List.map_map, List.map_map]
          rfl

def manyL (sw : List (List (Bool × Nat))) : Nat := sw.foldl (fun n ex => n * ex.length) 1
def longer (acc : List (List Nat)) (n : Nat) : List (List Nat) := acc.flatMap fun one => (List.range n).map fun e => one ++ [e]
def allL (sw : List (List (Bool × Nat))) : List (List Nat) := sw.foldl (fun acc ex => longer acc ex.length) [[]]
theorem longer_length (acc : List (List Nat)) (n : Nat) : (longer acc n).length = acc.length * n := by
  unfold longer
  induction acc with
  | nil => simp
  | cons a acc ih => rw [List.flatMap_cons, List.length_append, ih, List.length_map, List.length_range, List.length_cons, Nat.add_mul, Nat.one_mul, Nat.add_comm]
theorem lfold_len : ∀ (sw : List (List (Bool × Nat))) (acc : List (List Nat)), (sw.foldl (fun acc ex => longer acc ex.length) acc).length = sw.foldl (fun n ex => n * ex.length) acc.length
  | [], _ => rfl
  | ex :: sw, acc => by rw [List.foldl_cons, List.foldl_cons, lfold_len sw, longer_length]
theorem mul_fold : ∀ (sw : List (List (Bool × Nat))) (m : Nat), sw.foldl (fun n ex => n * ex.length) m = m * manyL sw
  | [], m => (Nat.mul_one m).symm
  | ex :: sw, m => by
    unfold manyL
    rw [List.foldl_cons, List.foldl_cons, mul_fold sw, mul_fold sw, Nat.one_mul, Nat.mul_assoc]
theorem many_pos : ∀ (sw : List (List (Bool × Nat))), (∀ ex ∈ sw, 1 ≤ ex.length) → 1 ≤ manyL sw
  | [], _ => Nat.le_refl 1
  | ex :: sw, h => by
    unfold manyL
    rw [List.foldl_cons, mul_fold, Nat.one_mul]
    exact Nat.le_trans (Nat.le_refl 1) (Nat.mul_le_mul (h ex List.mem_cons_self) (many_pos sw fun e he => h e (List.mem_cons_of_mem _ he)))
theorem many_app (s t : List (List (Bool × Nat))) : manyL (s ++ t) = manyL s * manyL t := by
  unfold manyL
  rw [List.foldl_append, mul_fold]; rfl
theorem many_take {sw : List (List (Bool × Nat))} (h : ∀ ex ∈ sw, 1 ≤ ex.length) (i : Nat) : manyL (sw.take i) ≤ manyL sw := by
  have e := many_app (sw.take i) (sw.drop i)
  rw [List.take_append_drop] at e
  have p := many_pos (sw.drop i) fun ex hx => h ex (List.mem_of_mem_drop hx)
  rw [e]
  exact Nat.le_mul_of_pos_right _ p
theorem allL_len (sw : List (List (Bool × Nat))) : (allL sw).length = manyL sw := by
  unfold allL
  rw [lfold_len]; rfl
theorem allL_snoc (sw : List (List (Bool × Nat))) (ex : List (Bool × Nat)) : allL (sw ++ [ex]) = longer (allL sw) ex.length := by
  unfold allL
  rw [List.foldl_append]; rfl
theorem all_mem_len : ∀ (sw : List (List (Bool × Nat))), ∀ hs ∈ allL sw, hs.length = sw.length := by
  suffices h : ∀ (sw : List (List (Bool × Nat))) (acc : List (List Nat)) (n : Nat), (∀ hs ∈ acc, hs.length = n) → ∀ hs ∈ sw.foldl (fun acc ex => longer acc ex.length) acc, hs.length = n + sw.length by
    intro sw hs hm
    have := h sw [[]] 0 (fun x hx => by rw [List.mem_singleton.mp hx]; rfl) hs hm
    omega
  intro sw
  induction sw with
  | nil => intro acc n h hs hm; exact h hs hm
  | cons ex sw ih =>
    intro acc n h hs hm
    rw [List.foldl_cons] at hm
    have := ih (longer acc ex.length) (n + 1) (fun x hx => by
      unfold longer at hx
      obtain ⟨one, h1, h2⟩ := List.mem_flatMap.mp hx
      obtain ⟨e, _, rfl⟩ := List.mem_map.mp h2
      rw [List.length_append, h one h1]; rfl) hs hm
    rw [List.length_cons]; omega
theorem take_get {α : Type} {xs : List α} {i : Nat} {x : α} (h : xs[i]? = some x) : xs.take (i + 1) = xs.take i ++ [x] := by rw [List.take_add_one, h]; rfl
theorem longer_snoc (acc : List (List Nat)) (one : List Nat) (n : Nat) : longer (acc ++ [one]) n = longer acc n ++ (List.range n).map fun e => one ++ [e] := by
  unfold longer
  rw [List.flatMap_append, List.flatMap_singleton]
theorem haD_snoc (hs : List Nat) (e : Nat) : haD (hs ++ [e]) = .tup ((hs.map fun n : Nat => D.int n) ++ [.int e]) := by
  unfold haD
  rw [List.map_append]; rfl
end Mp
namespace Mp
/-! ### a ball comes to rest -/
theorem exists_min (P : Nat → Prop) (h : ∃ n, P n) : ∃ n, P n ∧ ∀ m, P m → n ≤ m := by
  obtain ⟨n, hn⟩ := h
  induction n using Nat.strongRecOn with
  | _ n ih =>
    by_cases e : ∃ m, m < n ∧ P m
    · obtain ⟨m, l, hm⟩ := e
      exact ih m l hm
    · exact ⟨n, hn, fun m hm => Nat.le_of_not_lt fun l => e ⟨m, l, hm⟩⟩
/-- within k moves a cup may be come to -/
def RK (b : Bd) : Nat → Nat → Prop
  | 0, _ => False
  | k + 1, s => ∃ ex, b.sw[s]? = some ex ∧ ∃ p ∈ ex, p.1 = true ∨ RK b k p.2
theorem RK.mono {b : Bd} : ∀ {k s}, RK b k s → RK b (k + 1) s
  | k + 1, s, ⟨ex, h, p, hp, q⟩ => ⟨ex, h, p, hp, q.imp id RK.mono⟩
theorem RK.le {b : Bd} {k j s : Nat} (r : RK b k s) (h : k ≤ j) : RK b j s := by
  induction h with
  | refl => exact r
  | step _ ih => exact ih.mono
theorem Reach.rk {b : Bd} {s : Nat} (r : Reach b s) : ∃ k, RK b k s := by
  induction r with
  | cup h m => exact ⟨1, _, h, _, m, .inl rfl⟩
  | step h m _ ih =>
    obtain ⟨k, q⟩ := ih
    exact ⟨k + 1, _, h, _, m, .inr q⟩
theorem RK.reach {b : Bd} : ∀ {k s}, RK b k s → Reach b s
  | k + 1, s, ⟨ex, h, (c, n), hp, q⟩ => by
    cases c with
    | true => exact .cup h hp
    | false =>
      rcases q with q | q
      · cases q
      · exact .step h hp (RK.reach q)
theorem RK.lt {b : Bd} : ∀ {k s}, RK b k s → s < b.sw.length
  | k + 1, s, ⟨ex, h, _⟩ => (List.getElem?_eq_some_iff.mp h).1
theorem filter_lt {α : Type} {p q : α → Bool} : ∀ {xs : List α}, (∀ x ∈ xs, p x = true → q x = true) → (∃ x ∈ xs, q x = true ∧ p x = false) → (xs.filter p).length < (xs.filter q).length
  | [], _, ⟨_, h, _⟩ => absurd h List.not_mem_nil
  | x :: xs, h, e => by
    have le : ∀ ys : List α, (∀ y ∈ ys, p y = true → q y = true) → (ys.filter p).length ≤ (ys.filter q).length := fun ys hy => by
      induction ys with
      | nil => exact Nat.le_refl _
      | cons y ys ih =>
        have := ih fun z hz => hy z (List.mem_cons_of_mem _ hz)
        rw [List.filter_cons, List.filter_cons]
        by_cases hp : p y = true
        · rw [if_pos hp, if_pos (hy y List.mem_cons_self hp)]; exact Nat.succ_le_succ this
        · rw [if_neg hp]
          split
          · exact Nat.le_succ_of_le this
          · exact this
    have h' : ∀ y ∈ xs, p y = true → q y = true := fun y hy => h y (List.mem_cons_of_mem _ hy)
    rw [List.filter_cons, List.filter_cons]
    obtain ⟨y, hy, hq, hp⟩ := e
    rcases List.mem_cons.mp hy with rfl | hy
    · rw [if_neg (by simp [hp]), if_pos hq]
      exact Nat.lt_succ_of_le (le xs h')
    · have ih := filter_lt h' ⟨y, hy, hq, hp⟩
      by_cases hx : p x = true
      · rw [if_pos hx, if_pos (h x List.mem_cons_self hx)]; exact Nat.succ_lt_succ ih
      · rw [if_neg hx]
        split
        · exact Nat.lt_succ_of_lt ih
        · exact ih
open Classical in
theorem rk_grow (b : Bd) (k : Nat) : (∀ s, RK b (k + 1) s → RK b k s) ∨ k ≤ ((List.range b.sw.length).filter fun s => decide (RK b k s)).length := by
  induction k with
  | zero => exact .inr (Nat.zero_le _)
  | succ k ih =>
    by_cases st : ∀ s, RK b (k + 1) s → RK b k s
    · refine .inl fun s ⟨ex, h, p, hp, q⟩ => ⟨ex, h, p, hp, q.imp id (st _)⟩
    · rcases ih with ih | ih
      · exact absurd ih st
      · refine .inr ?_
        have : ∃ s, RK b (k + 1) s ∧ ¬ RK b k s := Classical.byContradiction fun z => st fun s h => Classical.byContradiction fun n => z ⟨s, h, n⟩
        obtain ⟨s, h1, h2⟩ := this
        refine Nat.succ_le_of_lt (Nat.lt_of_le_of_lt ih (filter_lt (fun x _ hx => ?_) ⟨s, List.mem_range.mpr h1.lt, by simpa using h1, by simpa using h2⟩))
        have := of_decide_eq_true hx
        exact decide_eq_true this.mono
open Classical in
theorem Reach.rkn {b : Bd} {s : Nat} (r : Reach b s) : RK b b.sw.length s := by
  obtain ⟨k, q⟩ := r.rk
  rcases rk_grow b b.sw.length with st | l
  · by_cases h : k ≤ b.sw.length
    · exact q.le h
    · have : ∀ j s, RK b (b.sw.length + j) s → RK b b.sw.length s := by
        intro j
        induction j with
        | zero => exact fun _ h => h
        | succ j ih =>
          rintro s ⟨ex, h, p, hp, q⟩
          exact st s ⟨ex, h, p, hp, q.imp id (ih _)⟩
      exact this (k - b.sw.length) s (q.le (by omega))
  · have hs : s ∈ (List.range b.sw.length).filter fun s => decide (RK b b.sw.length s) := by
      refine nodup_all (n := b.sw.length) (List.nodup_range.filter _) (fun x hx => ?_) l r.lt
      exact List.mem_range.mp (List.mem_filter.mp hx).1
    exact of_decide_eq_true (List.mem_filter.mp hs).2
/-- each switch that is not lost knows an exit that leads nearer -/
theorem nearer (b : Bd) : ∃ (d : Nat → Nat) (e : Nat → Nat), ∀ s, Reach b s → ∃ (ex : List (Bool × Nat)) (p : Bool × Nat), b.sw[s]? = some ex ∧ ex[e s]? = some p ∧ d s ≤ b.sw.length ∧ 1 ≤ d s ∧ (p.1 = true ∨ (p.1 = false ∧ Reach b p.2 ∧ d p.2 < d s)) := by
  have h : ∀ s, ∃ k, Reach b s → RK b k s ∧ ∀ m, RK b m s → k ≤ m := fun s => by
    by_cases r : Reach b s
    · obtain ⟨k, h1, h2⟩ := exists_min (fun k => RK b k s) r.rk
      exact ⟨k, fun _ => ⟨h1, h2⟩⟩
    · exact ⟨0, fun z => absurd z r⟩
  have ⟨d, hd⟩ := Classical.axiomOfChoice h
  have h2 : ∀ s, ∃ e : Nat, Reach b s → ∃ (ex : List (Bool × Nat)) (p : Bool × Nat), b.sw[s]? = some ex ∧ ex[e]? = some p ∧ d s ≤ b.sw.length ∧ 1 ≤ d s ∧ (p.1 = true ∨ (p.1 = false ∧ Reach b p.2 ∧ d p.2 < d s)) := fun s => by
    by_cases r : Reach b s
    · obtain ⟨h1, h2⟩ := hd s r
      have hle := h2 _ r.rkn
      cases hk : d s with
      | zero => rw [hk] at h1; exact h1.elim
      | succ k =>
        rw [hk] at h1
        obtain ⟨ex, hx, p, hp, q⟩ := h1
        obtain ⟨i, hi⟩ := List.getElem?_of_mem hp
        refine ⟨i, fun _ => ⟨ex, p, hx, hi, by omega, by omega, ?_⟩⟩
        cases hc : p.1 with
        | true => exact .inl rfl
        | false =>
          rcases q with q | q
          · rw [hc] at q; cases q
          · refine .inr ⟨rfl, RK.reach q, ?_⟩
            have := (hd p.2 (RK.reach q)).2 _ q
            omega
    · exact ⟨0, fun z => absurd z r⟩
  have ⟨e, he⟩ := Classical.axiomOfChoice h2
  exact ⟨d, e, he⟩
/-! potentials -/
def uu (L : Nat) : Nat → Nat
  | 0 => 0
  | j + 1 => L * (uu L j + 1)
theorem uu_le {L : Nat} (hL : 1 ≤ L) (j : Nat) : uu L j + 1 ≤ uu L (j + 1) := by
  show _ ≤ L * (uu L j + 1)
  exact Nat.le_mul_of_pos_left _ hL
theorem uu_mono {L : Nat} (hL : 1 ≤ L) {i j : Nat} (h : i ≤ j) : uu L i ≤ uu L j := by
  induction h with
  | refl => exact Nat.le_refl _
  | step _ ih => exact Nat.le_trans ih (Nat.le_of_lt (uu_le hL _))
def sumR : Nat → (Nat → Nat) → Nat
  | 0, _ => 0
  | n + 1, f => sumR n f + f n
theorem sumR_eq {n : Nat} {f g : Nat → Nat} (h : ∀ j, j < n → f j = g j) : sumR n f = sumR n g := by
  induction n with
  | zero => rfl
  | succ n ih =>
    show sumR n f + f n = sumR n g + g n
    rw [ih fun j hj => h j (Nat.lt_succ_of_lt hj), h n (Nat.lt_succ_self n)]
theorem sumR_at {n s : Nat} {f g : Nat → Nat} (hs : s < n) (h : ∀ j, j ≠ s → f j = g j) : sumR n g + f s = sumR n f + g s := by
  induction n with
  | zero => exact absurd hs (Nat.not_lt_zero _)
  | succ n ih =>
    show sumR n g + g n + f s = sumR n f + f n + g s
    by_cases e : s = n
    · subst e
      rw [sumR_eq (f := f) (g := g) fun j hj => h j (Nat.ne_of_lt hj)]
      omega
    · have := ih (by omega)
      have := h n (Ne.symm e)
      omega
theorem sumR_le {n c : Nat} {f : Nat → Nat} (h : ∀ j, j < n → f j ≤ c) : sumR n f ≤ n * c := by
  induction n with
  | zero => exact Nat.zero_le _
  | succ n ih =>
    show sumR n f + f n ≤ (n + 1) * c
    have := ih fun j hj => h j (Nat.lt_succ_of_lt hj)
    have := h n (Nat.lt_succ_self n)
    rw [Nat.add_mul]; omega
/-- how many turns till the hand stands at e -/
def turnsTo (len e k : Nat) : Nat := if k ≤ e then e - k else e + len - k
abbrev Sta := (Bool × Nat) × List Nat
def nextH (len k : Nat) : Nat := if k + 1 < len then k + 1 else 0
/-- a move -/
def stepS (b : Bd) (st : Sta) : Sta :=
  let ex := b.sw.getD st.1.2 []
  let k := st.2.getD st.1.2 0
  (ex.getD k (true, 0), st.2.set st.1.2 (nextH ex.length k))
def isRest (b : Bd) (p : Bool × Nat) : Prop := p.1 = true ∨ ¬ Reach b p.2
inductive Runs (b : Bd) : Sta → Nat → Sta → Prop
  | stop {st : Sta} : isRest b st.1 → Runs b st 0 st
  | step {st st' : Sta} {n : Nat} : ¬ isRest b st.1 → Runs b (stepS b st) n st' → Runs b st (n + 1) st'
def stOk (b : Bd) (st : Sta) : Prop := plOk b.cups b.sw.length st.1 ∧ haOk b st.2
theorem stOk.get {b : Bd} {st : Sta} (o : stOk b st) (n : ¬ isRest b st.1) : st.1.1 = false ∧ Reach b st.1.2 ∧ ∃ (ex : List (Bool × Nat)) (k : Nat) (p : Bool × Nat), b.sw[st.1.2]? = some ex ∧ st.2[st.1.2]? = some k ∧ k < ex.length ∧ ex[k]? = some p ∧ stepS b st = (p, st.2.set st.1.2 (nextH ex.length k)) := by
  obtain ⟨⟨c, s⟩, hs⟩ := st
  have h1 : c = false := by
    cases c with
    | true => exact absurd (.inl rfl) n
    | false => rfl
  subst h1
  have h2 : Reach b s := Classical.byContradiction fun z => n (.inr z)
  have hl := h2.lt
  obtain ⟨o1, o2, o3⟩ := o
  have e1 : b.sw[s]? = some b.sw[s] := List.getElem?_eq_getElem hl
  have hl2 : s < hs.length := by rw [show hs.length = b.sw.length from o2]; exact hl
  have e2 : hs[s]? = some hs[s] := List.getElem?_eq_getElem hl2
  have h3 := o3 _ _ _ e2 e1
  refine ⟨rfl, h2, b.sw[s], hs[s], b.sw[s][hs[s]], e1, e2, h3, List.getElem?_eq_getElem h3, ?_⟩
  unfold stepS
  show (((b.sw.getD s []).getD (hs.getD s 0) (true, 0)), hs.set s (nextH (b.sw.getD s []).length (hs.getD s 0))) = _
  rw [List.getD_eq_getElem?_getD, List.getD_eq_getElem?_getD, List.getD_eq_getElem?_getD, e1, e2]
  show (((b.sw[s])[hs[s]]?).getD (true, 0), _) = _
  rw [List.getElem?_eq_getElem h3]; rfl
theorem nextH_lt {len k : Nat} (h : k < len) : nextH len k < len := by
  unfold nextH
  split <;> omega
theorem stOk.step {b : Bd} {st : Sta} (o : stOk b st) (hb : ∀ ex ∈ b.sw, ∀ p ∈ ex, plOk b.cups b.sw.length p) (n : ¬ isRest b st.1) : stOk b (stepS b st) := by
  obtain ⟨h1, h2, ex, k, p, e1, e2, e3, e4, e5⟩ := o.get n
  rw [e5]
  refine ⟨hb ex (List.mem_of_getElem? e1) p (List.mem_of_getElem? e4), by rw [List.length_set]; exact o.2.1, fun i m ex' hi hx => ?_⟩
  by_cases e : st.1.2 = i
  · subst e
    rw [e1] at hx; cases hx
    rw [List.getElem?_set_self (List.getElem?_eq_some_iff.mp e2).1] at hi
    cases hi
    exact nextH_lt e3
  · rw [List.getElem?_set_ne e] at hi
    exact o.2.2 i m ex' hi hx
theorem turns_next {len e k : Nat} (he : e < len) (hk : k < len) (h : k ≠ e) : turnsTo len e k = turnsTo len e (nextH len k) + 1 := by
  unfold turnsTo nextH
  repeat' split
  all_goals omega
theorem turns_here {len e : Nat} : turnsTo len e e = 0 := by
  unfold turnsTo
  rw [if_pos (Nat.le_refl _)]; omega
theorem turns_le {len e k : Nat} (he : e < len) : turnsTo len e k + 1 ≤ len := by
  unfold turnsTo
  split <;> omega
open Classical in
/-- a ball comes to rest within a bound -/
theorem runs_ok {b : Bd} {L : Nat} (hL : 1 ≤ L) (hex : ∀ ex ∈ b.sw, ex.length ≤ L) (hb : ∀ ex ∈ b.sw, ∀ p ∈ ex, plOk b.cups b.sw.length p) (st : Sta) (o : stOk b st) : ∃ n st', n ≤ b.sw.length * (L * (1 + uu L b.sw.length)) + uu L b.sw.length ∧ Runs b st n st' ∧ stOk b st' ∧ isRest b st'.1 := by
  obtain ⟨d, e, hd⟩ := nearer b
  obtain ⟨N, hN⟩ : ∃ N, b.sw.length = N := ⟨_, rfl⟩
  rw [hN]
  let F : List Nat → Nat → Nat := fun hs s => if Reach b s then turnsTo (b.sw.getD s []).length (e s) (hs.getD s 0) * (1 + uu L (N - d s)) else 0
  let V : Bool × Nat → Nat := fun p => uu L N - uu L (N - (if p.1 then 0 else d p.2))
  have key : ∀ m (st : Sta), stOk b st → sumR N (F st.2) + V st.1 = m → ∃ n st', n ≤ m ∧ Runs b st n st' ∧ stOk b st' ∧ isRest b st'.1 := by
    intro m
    induction m using Nat.strongRecOn with
    | _ m ih =>
      intro st o hm
      by_cases hr : isRest b st.1
      · exact ⟨0, st, Nat.zero_le _, .stop hr, o, hr⟩
      · have o' := o.step hb hr
        obtain ⟨h1, h2, ex, k, p, e1, e2, e3, e4, e5⟩ := o.get hr
        have lt : sumR N (F (stepS b st).2) + V (stepS b st).1 < m := by
          rw [e5]
          obtain ⟨ex', p', d1, d2, d3, d4, d5⟩ := hd st.1.2 h2
          rw [e1] at d1; cases d1
          have hs : st.1.2 < N := by rw [← hN]; exact h2.lt
          have eD : (b.sw.getD st.1.2 []) = ex := by rw [List.getD_eq_getElem?_getD, e1]; rfl
          have kD : st.2.getD st.1.2 0 = k := by rw [List.getD_eq_getElem?_getD, e2]; rfl
          have kD' : (st.2.set st.1.2 (nextH ex.length k)).getD st.1.2 0 = nextH ex.length k := by
            rw [List.getD_eq_getElem?_getD, List.getElem?_set_self (List.getElem?_eq_some_iff.mp e2).1]; rfl
          have he : e st.1.2 < ex.length := (List.getElem?_eq_some_iff.mp d2).1
          have hlen := hex ex (List.mem_of_getElem? e1)
          have other : ∀ j, j ≠ st.1.2 → F st.2 j = F (st.2.set st.1.2 (nextH ex.length k)) j := fun j hj => by
            show (if _ then _ else _) = (if _ then _ else _)
            have : (st.2.set st.1.2 (nextH ex.length k)).getD j 0 = st.2.getD j 0 := by
              rw [List.getD_eq_getElem?_getD, List.getD_eq_getElem?_getD, List.getElem?_set_ne (Ne.symm hj)]
            rw [this]
          have at1 : F st.2 st.1.2 = turnsTo ex.length (e st.1.2) k * (1 + uu L (N - d st.1.2)) := by
            show (if _ then _ else _) = _
            rw [if_pos h2, eD, kD]
          have at2 : F (st.2.set st.1.2 (nextH ex.length k)) st.1.2 = turnsTo ex.length (e st.1.2) (nextH ex.length k) * (1 + uu L (N - d st.1.2)) := by
            show (if _ then _ else _) = _
            rw [if_pos h2, eD, kD']
          have sum := sumR_at (n := N) hs other
          have V0 : V st.1 = uu L N - uu L (N - d st.1.2) := by
            show uu L N - uu L (N - (if st.1.1 then 0 else d st.1.2)) = _
            rw [h1]; rfl
          have mono1 : uu L (N - d st.1.2) ≤ uu L N := uu_mono hL (Nat.sub_le _ _)
          show sumR N (F (st.2.set st.1.2 (nextH ex.length k))) + V p < m
          by_cases hk : k = e st.1.2
          · subst hk
            rw [turns_here, Nat.zero_mul] at at1
            rw [e4] at d2; cases d2
            have top : L * (1 + uu L (N - d st.1.2)) ≤ uu L (N - (if p.1 then 0 else d p.2)) := by
              have : uu L (N - d st.1.2 + 1) ≤ uu L (N - (if p.1 then 0 else d p.2)) := by
                refine uu_mono hL ?_
                rcases d5 with c | ⟨c, c2, c3⟩
                · rw [c]; simp; omega
                · rw [c]; simp; omega
              have e0 : uu L (N - d st.1.2 + 1) = L * (uu L (N - d st.1.2) + 1) := rfl
              rw [e0, Nat.add_comm (uu L _) 1] at this
              exact this
            have mono2 : uu L (N - (if p.1 then 0 else d p.2)) ≤ uu L N := uu_mono hL (Nat.sub_le _ _)
            have V1 : V p = uu L N - uu L (N - (if p.1 then 0 else d p.2)) := rfl
            have tl := turns_le (k := nextH ex.length (e st.1.2)) he
            have b1 : turnsTo ex.length (e st.1.2) (nextH ex.length (e st.1.2)) * (1 + uu L (N - d st.1.2)) + (1 + uu L (N - d st.1.2)) ≤ L * (1 + uu L (N - d st.1.2)) := by
              have : (turnsTo ex.length (e st.1.2) (nextH ex.length (e st.1.2)) + 1) * (1 + uu L (N - d st.1.2)) ≤ L * (1 + uu L (N - d st.1.2)) := Nat.mul_le_mul_right _ (by omega)
              rwa [Nat.add_mul, Nat.one_mul] at this
            rw [← at2] at b1
            rw [V1]
            generalize L * (1 + uu L (N - d st.1.2)) = LW at *
            generalize uu L (N - (if p.1 then 0 else d p.2)) = U' at *
            generalize uu L (N - d st.1.2) = U at *
            omega
          · have tn := turns_next he e3 hk
            rw [tn, Nat.add_mul, Nat.one_mul, ← at2] at at1
            have V1 : V p ≤ uu L N := Nat.sub_le _ _
            generalize uu L (N - d st.1.2) = U at *
            omega
        obtain ⟨n, st', l, r, o2, r2⟩ := ih _ lt _ o' rfl
        exact ⟨n + 1, st', by omega, .step hr r, o2, r2⟩
  obtain ⟨n, st', l, r, o2, r2⟩ := key _ st o rfl
  refine ⟨n, st', Nat.le_trans l (Nat.add_le_add (sumR_le fun j hj => ?_) (Nat.sub_le _ _)), r, o2, r2⟩
  show (if _ then _ else _) ≤ _
  split
  · rename_i hr
    obtain ⟨ex, p, d1, d2, d3, d4, d5⟩ := hd j hr
    have eD : (b.sw.getD j []) = ex := by rw [List.getD_eq_getElem?_getD, d1]; rfl
    have he : e j < ex.length := (List.getElem?_eq_some_iff.mp d2).1
    have tl := turns_le (k := st.2.getD j 0) he
    have hlen := hex ex (List.mem_of_getElem? d1)
    rw [eD]
    exact Nat.mul_le_mul (by omega) (Nat.add_le_add_left (uu_mono hL (Nat.sub_le _ _)) _)
  · exact Nat.zero_le _
theorem Runs.det {b : Bd} {st a c : Sta} {n m : Nat} (r : Runs b st n a) (r2 : Runs b st m c) : n = m ∧ a = c := by
  induction r generalizing m c with
  | stop h =>
    cases r2 with
    | stop _ => exact ⟨rfl, rfl⟩
    | step h2 _ => exact absurd h h2
  | step h _ ih =>
    cases r2 with
    | stop h2 => exact absurd h2 h
    | step _ q =>
      obtain ⟨h1, h2⟩ := ih q
      exact ⟨by rw [h1], h2⟩
end Mp
namespace Mp
/-! ### runs -/
open Classical in
theorem lost_mem {b : Bd} {s : Nat} (h : s < b.sw.length) : s ∈ lostL b ↔ ¬ Reach b s := by
  unfold lostL
  rw [List.mem_filter, List.mem_range]
  simp [h]
open Classical in
theorem sp_raw_rests {b : Bd} {p : Bool × Nat} {g : Nat} {h : Hh} {X : PX} {Q : PV} (hg : h g = some (.lst ((lostL b).map fun n : Nat => .int n))) (ok : plOk b.cups b.sw.length p) (q : Q (.bl (decide (isRest b p))) h) : wpF fn_raw_rests [.ref g, plD p] h X Q := by
  simp only [fn_raw_rests, b_raw_rests_1, plD, wpF, wpB, wpS, wpE, wpA, wpO, wpC, wpI, tg_name, tg_nil, tg_cons, o_add, o_addT, o_addL, o_addS, o_sub, o_mul, o_mulT, o_neB, o_isnotB, o_isB, o_fdiv, o_mod, o_pow, o_eqI, o_neI, o_lt, o_le, o_gt, o_ge, o_is, o_isnot, o_in, o_notin, f_abs, f_str, f_int, f_isi, f_len, f_tuple, f_list, asInt_int, ty_append, ty_extend, ty_update, ty_count, ty_index, Lit.d, truth_bl, truth_non, truth_int, truth_tup, seqD_tup, lenD_tup, tyD_bl, tyD_int, tyD_str, tyD_non, tyD_tup, List.getElem?_cons_zero, List.getElem?_cons_succ, List.set_cons_zero, List.set_cons_succ, Option.some.injEq, exists_eq_left', List.map_cons, List.map_nil, List.cons_append, List.nil_append, List.length_cons, List.length_nil, List.replicate, setAll, wipeD, if_true, if_false, Bool.false_eq_true, ix_tup, atI_0, atI_1, eq_cup, mem_ints hg]
  refine ⟨trivial, ?_⟩
  obtain ⟨c, s⟩ := p
  cases c with
  | true =>
    have : decide (isRest b (true, s)) = true := decide_eq_true (.inl rfl)
    rw [this] at q
    simpa using q
  | false =>
    have e : decide (isRest b (false, s)) = decide (s ∈ lostL b) := by
      rw [decide_eq_decide, lost_mem ok]
      exact ⟨fun h => h.resolve_left (by simp), .inr⟩
    rw [e] at q
    simpa using q
theorem atI_map {α β : Type} {xs : List α} {f : α → β} {s : Nat} {x : α} (h : xs[s]? = some x) : L2.atI (xs.map f) (s : Int) = some (f x) := by
  rw [atI_nat, List.getElem?_map, h]; rfl
theorem ixN_nat {n s : Nat} (h : s < n) : L2.ixN n (s : Int) = some s := by
  unfold L2.ixN
  rw [if_pos (by omega), if_pos (by omega)]; rfl
open Classical in
theorem sp_raw_run {b : Bd} {mc ms me : Nat} {st st' : Sta} {n most : Nat} {h : Hh} {X : PX} {Q : PV} (hb : b.Ok mc ms me) (hms : ms ≤ 1000) (hme : me ≤ 1000) (o : stOk b st) (r : Runs b st n st') (hn : n ≤ most)
    (q : ∀ h', Ext h h' → Q (.tup [plD st'.1, haD st'.2, .int n, .bl true]) h') : wpF fn_raw_run [bdD b, haD st.2, plD st.1, .int most] h X Q := by
  simp only [fn_raw_run, b_raw_run_1, wpF, wpB, wpS, wpE, wpA, wpO, wpC, wpI, tg_name, tg_nil, tg_cons, o_add, o_addT, o_addL, o_addS, o_sub, o_mul, o_mulT, o_neB, o_isnotB, o_isB, o_fdiv, o_mod, o_pow, o_eqI, o_neI, o_lt, o_le, o_gt, o_ge, o_is, o_isnot, o_in, o_notin, f_abs, f_str, f_int, f_isi, f_len, f_tuple, f_list, asInt_int, ty_append, ty_extend, ty_update, ty_count, ty_index, Lit.d, truth_bl, truth_non, truth_int, truth_tup, seqD_tup, lenD_tup, tyD_bl, tyD_int, tyD_str, tyD_non, tyD_tup, List.getElem?_cons_zero, List.getElem?_cons_succ, List.set_cons_zero, List.set_cons_succ, Option.some.injEq, exists_eq_left', List.map_cons, List.map_nil, List.cons_append, List.nil_append, List.length_cons, List.length_nil, List.replicate, setAll, wipeD, if_true, if_false, Bool.false_eq_true]
  refine ⟨trivial, sp_raw_lost hb hms hme fun g h1 e1 hg hg1 => ?_⟩
  simp only [haD, o_add, o_addT, o_addL, o_addS, o_sub, o_mul, o_mulT, o_neB, o_isnotB, o_isB, o_fdiv, o_mod, o_pow, o_eqI, o_neI, o_lt, o_le, o_gt, o_ge, o_is, o_isnot, o_in, o_notin, f_abs, f_str, f_int, f_isi, f_len, f_tuple, f_list, asInt_int, ty_append, ty_extend, ty_update, ty_count, ty_index, Lit.d, truth_bl, truth_non, truth_int, truth_tup, seqD_tup, lenD_tup, tyD_bl, tyD_int, tyD_str, tyD_non, tyD_tup, List.getElem?_cons_zero, List.getElem?_cons_succ, List.set_cons_zero, List.set_cons_succ, Option.some.injEq, exists_eq_left', List.map_cons, List.map_nil, List.cons_append, List.nil_append, List.length_cons, List.length_nil, List.replicate, setAll, wipeD, if_true, if_false, Bool.false_eq_true]
  intro p hp
  have hpl : ∀ ex ∈ b.sw, ∀ p ∈ ex, plOk b.cups b.sw.length p := fun ex hx => (hb.ex ex hx).2.2
  simp only [b_raw_run_2, wpB, wpS, wpE, wpA, wpO, wpC, wpI, tg_name, tg_nil, tg_cons, o_add, o_addT, o_addL, o_addS, o_sub, o_mul, o_mulT, o_neB, o_isnotB, o_isB, o_fdiv, o_mod, o_pow, o_eqI, o_neI, o_lt, o_le, o_gt, o_ge, o_is, o_isnot, o_in, o_notin, f_abs, f_str, f_int, f_isi, f_len, f_tuple, f_list, asInt_int, ty_append, ty_extend, ty_update, ty_count, ty_index, Lit.d, truth_bl, truth_non, truth_int, truth_tup, seqD_tup, lenD_tup, tyD_bl, tyD_int, tyD_str, tyD_non, tyD_tup, List.getElem?_cons_zero, List.getElem?_cons_succ, List.set_cons_zero, List.set_cons_succ, Option.some.injEq, exists_eq_left', List.map_cons, List.map_nil, List.cons_append, List.nil_append, List.length_cons, List.length_nil, List.replicate, setAll, wipeD, if_true, if_false, Bool.false_eq_true]
  refine ⟨trivial, ?_⟩
  refine whl_inv (fun m σ' h' => ∃ st1 o7 o8 i, σ' = [some (bdD b), some (.tup (st.2.map fun n : Nat => .int n)), some (plD st1.1), some (.int most), some (.ref g), some (.ref p), some (.int i), o7, o8] ∧ Runs b st1 m st' ∧ i + m = n ∧ stOk b st1 ∧ Ext h1 h' ∧
    h' p = some (.lst (st1.2.map fun n : Nat => .int n))) ?_ (m := n) ⟨st, _, _, 0, rfl, r, by omega, o, .up hp, up_same⟩
  rintro m σ' h' k ⟨st1, o7, o8, i, rfl, r1, him, o1, e2, hp2⟩ hk
  have hg2 := e2 _ _ hg1
  have fin : ∀ t : Prop, isRest b st1.1 → m = 0 → st1 = st' → wpB b_raw_run_8 [some (bdD b), some (.tup (st.2.map fun n : Nat => .int n)), some (plD st1.1), some (.int most), some (.ref g), some (.ref p), some (.int i), o7, o8] h' X ⟨fun x h1 => Q .non h1, Q, fun _ _ => False, fun _ _ => False⟩ := by
    intro _ hr hm hs
    subst hm hs
    simp only [b_raw_run_8, wpB, wpS, wpE, wpA, wpO, wpC, wpI, tg_name, tg_nil, tg_cons, o_add, o_addT, o_addL, o_addS, o_sub, o_mul, o_mulT, o_neB, o_isnotB, o_isB, o_fdiv, o_mod, o_pow, o_eqI, o_neI, o_lt, o_le, o_gt, o_ge, o_is, o_isnot, o_in, o_notin, f_abs, f_str, f_int, f_isi, f_len, f_tuple, f_list, asInt_int, ty_append, ty_extend, ty_update, ty_count, ty_index, Lit.d, truth_bl, truth_non, truth_int, truth_tup, seqD_tup, lenD_tup, tyD_bl, tyD_int, tyD_str, tyD_non, tyD_tup, List.getElem?_cons_zero, List.getElem?_cons_succ, List.set_cons_zero, List.set_cons_succ, Option.some.injEq, exists_eq_left', List.map_cons, List.map_nil, List.cons_append, List.nil_append, List.length_cons, List.length_nil, List.replicate, setAll, wipeD, if_true, if_false, Bool.false_eq_true, seqD_lst hp2]
    refine sp_raw_rests hg2 o1.1 ⟨by decide, ?_⟩
    rw [decide_eq_true hr]
    have : i = n := by omega
    subst this
    exact q h' (e1.trans e2)
  simp only [wpB, wpS, wpE, wpA, wpO, wpC, wpI, tg_name, tg_nil, tg_cons, o_add, o_addT, o_addL, o_addS, o_sub, o_mul, o_mulT, o_neB, o_isnotB, o_isB, o_fdiv, o_mod, o_pow, o_eqI, o_neI, o_lt, o_le, o_gt, o_ge, o_is, o_isnot, o_in, o_notin, f_abs, f_str, f_int, f_isi, f_len, f_tuple, f_list, asInt_int, ty_append, ty_extend, ty_update, ty_count, ty_index, Lit.d, truth_bl, truth_non, truth_int, truth_tup, seqD_tup, lenD_tup, tyD_bl, tyD_int, tyD_str, tyD_non, tyD_tup, List.getElem?_cons_zero, List.getElem?_cons_succ, List.set_cons_zero, List.set_cons_succ, Option.some.injEq, exists_eq_left', List.map_cons, List.map_nil, List.cons_append, List.nil_append, List.length_cons, List.length_nil, List.replicate, setAll, wipeD, if_true, if_false, Bool.false_eq_true]
  by_cases hr : isRest b st1.1
  · obtain ⟨hm, hs⟩ : m = 0 ∧ st1 = st' := by
      cases r1 with
      | stop _ => exact ⟨rfl, rfl⟩
      | step z _ => exact absurd hr z
    split
    · refine sp_raw_rests hg2 o1.1 ?_
      rw [decide_eq_true hr]
      simp only [truth_bl, Option.some.injEq, exists_eq_left', Bool.not_true, Bool.false_eq_true, if_false]
      exact fin True hr hm hs
    · exact fin True hr hm hs
  · cases r1 with
    | stop z => exact absurd z hr
    | @step _ _ m _ r2 =>
      rw [if_pos (by simpa using (by omega : (i : Int) < most))]
      refine sp_raw_rests hg2 o1.1 ?_
      rw [decide_eq_false hr]
      simp only [truth_bl, Option.some.injEq, exists_eq_left', Bool.not_false, if_true]
      obtain ⟨h1', h2', ex, kk, pl, x1, x2, x3, x4, x5⟩ := o1.get hr
      have o2 := o1.step hpl hr
      have y1 : L2.atI (b.sw.map exD) (st1.1.2 : Int) = some (exD ex) := atI_map x1
      have y2 : L2.atI (st1.2.map fun n : Nat => D.int n) (st1.1.2 : Int) = some (.int kk) := atI_map x2
      have y3 : L2.atI (ex.map plD) (kk : Int) = some (plD pl) := atI_map x4
      simp only [b_raw_run_3, b_raw_run_4, b_raw_run_5, bdD, exD, plD, wpB, wpS, wpE, wpA, wpO, wpC, wpI, tg_name, tg_nil, tg_cons, o_add, o_addT, o_addL, o_addS, o_sub, o_mul, o_mulT, o_neB, o_isnotB, o_isB, o_fdiv, o_mod, o_pow, o_eqI, o_neI, o_lt, o_le, o_gt, o_ge, o_is, o_isnot, o_in, o_notin, f_abs, f_str, f_int, f_isi, f_len, f_tuple, f_list, asInt_int, ty_append, ty_extend, ty_update, ty_count, ty_index, Lit.d, truth_bl, truth_non, truth_int, truth_tup, seqD_tup, lenD_tup, tyD_bl, tyD_int, tyD_str, tyD_non, tyD_tup, List.getElem?_cons_zero, List.getElem?_cons_succ, List.set_cons_zero, List.set_cons_succ, Option.some.injEq, exists_eq_left', List.map_cons, List.map_nil, List.cons_append, List.nil_append, List.length_cons, List.length_nil, List.replicate, setAll, wipeD, if_true, if_false, Bool.false_eq_true, ix_tup, atI_1, y1]
      simp only [exD, wpB, wpS, wpE, wpA, wpO, wpC, wpI, tg_name, tg_nil, tg_cons, o_add, o_addT, o_addL, o_addS, o_sub, o_mul, o_mulT, o_neB, o_isnotB, o_isB, o_fdiv, o_mod, o_pow, o_eqI, o_neI, o_lt, o_le, o_gt, o_ge, o_is, o_isnot, o_in, o_notin, f_abs, f_str, f_int, f_isi, f_len, f_tuple, f_list, asInt_int, ty_append, ty_extend, ty_update, ty_count, ty_index, Lit.d, truth_bl, truth_non, truth_int, truth_tup, seqD_tup, lenD_tup, tyD_bl, tyD_int, tyD_str, tyD_non, tyD_tup, List.getElem?_cons_zero, List.getElem?_cons_succ, List.set_cons_zero, List.set_cons_succ, Option.some.injEq, exists_eq_left', List.map_cons, List.map_nil, List.cons_append, List.nil_append, List.length_cons, List.length_nil, List.replicate, setAll, wipeD, if_true, if_false, Bool.false_eq_true, ix_tup, ix_lst hp2, y2, y3]
      have hl : st1.1.2 < (st1.2.map fun n : Nat => D.int n).length := by rw [List.length_map]; exact (List.getElem?_eq_some_iff.mp x2).1
      have wr : ∀ (v : Nat) (o7' o8' : Option D), v = nextH ex.length kk → wpB b_raw_run_7 [some (D.tup [D.int ↑b.cups, D.tup (List.map exD b.sw)]), some (.tup (st.2.map fun n : Nat => .int n)), some (plD pl), some (.int most), some (.ref g), some (.ref p), some (.int i), o7', o8'] (up h' p (.lst ((st1.2.map fun n : Nat => D.int n).set st1.1.2 (.int v)))) X
          ⟨k, Q, fun σ1 h1 => wpB b_raw_run_8 σ1 h1 X ⟨fun x h1 => Q .non h1, Q, fun _ _ => False, fun _ _ => False⟩, k⟩ := by
        rintro v o7' o8' rfl
        simp only [b_raw_run_7, wpB, wpS, wpE, wpA, wpO, wpC, wpI, tg_name, tg_nil, tg_cons, o_add, o_addT, o_addL, o_addS, o_sub, o_mul, o_mulT, o_neB, o_isnotB, o_isB, o_fdiv, o_mod, o_pow, o_eqI, o_neI, o_lt, o_le, o_gt, o_ge, o_is, o_isnot, o_in, o_notin, f_abs, f_str, f_int, f_isi, f_len, f_tuple, f_list, asInt_int, ty_append, ty_extend, ty_update, ty_count, ty_index, Lit.d, truth_bl, truth_non, truth_int, truth_tup, seqD_tup, lenD_tup, tyD_bl, tyD_int, tyD_str, tyD_non, tyD_tup, List.getElem?_cons_zero, List.getElem?_cons_succ, List.set_cons_zero, List.set_cons_succ, Option.some.injEq, exists_eq_left', List.map_cons, List.map_nil, List.cons_append, List.nil_append, List.length_cons, List.length_nil, List.replicate, setAll, wipeD, if_true, if_false, Bool.false_eq_true]
        refine hk m _ _ (Nat.lt_succ_self m) ⟨stepS b st1, o7', o8', i + 1, ?_, r2, by omega, o2, e2.wr hp, ?_⟩
        · rw [x5]; rfl
        · rw [x5, up_same, List.map_set]
      simp only [b_raw_run_6, wpB, wpS, wpE, wpA, wpO, wpC, wpI, tg_name, tg_nil, tg_cons, o_add, o_addT, o_addL, o_addS, o_sub, o_mul, o_mulT, o_neB, o_isnotB, o_isB, o_fdiv, o_mod, o_pow, o_eqI, o_neI, o_lt, o_le, o_gt, o_ge, o_is, o_isnot, o_in, o_notin, f_abs, f_str, f_int, f_isi, f_len, f_tuple, f_list, asInt_int, ty_append, ty_extend, ty_update, ty_count, ty_index, Lit.d, truth_bl, truth_non, truth_int, truth_tup, seqD_tup, lenD_tup, tyD_bl, tyD_int, tyD_str, tyD_non, tyD_tup, List.getElem?_cons_zero, List.getElem?_cons_succ, List.set_cons_zero, List.set_cons_succ, Option.some.injEq, exists_eq_left', List.map_cons, List.map_nil, List.cons_append, List.nil_append, List.length_cons, List.length_nil, List.replicate, setAll, wipeD, if_true, if_false, Bool.false_eq_true, ix_lst hp2, y2, List.length_map]
      split
      · rename_i hlt
        have hlt' : kk + 1 < ex.length := by
          have : (kk : Int) + 1 < ex.length := by simpa using hlt
          omega
        simp only [hp2, o_add, o_addT, o_addL, o_addS, o_sub, o_mul, o_mulT, o_neB, o_isnotB, o_isB, o_fdiv, o_mod, o_pow, o_eqI, o_neI, o_lt, o_le, o_gt, o_ge, o_is, o_isnot, o_in, o_notin, f_abs, f_str, f_int, f_isi, f_len, f_tuple, f_list, asInt_int, ty_append, ty_extend, ty_update, ty_count, ty_index, Lit.d, truth_bl, truth_non, truth_int, truth_tup, seqD_tup, lenD_tup, tyD_bl, tyD_int, tyD_str, tyD_non, tyD_tup, List.getElem?_cons_zero, List.getElem?_cons_succ, List.set_cons_zero, List.set_cons_succ, Option.some.injEq, exists_eq_left', List.map_cons, List.map_nil, List.cons_append, List.nil_append, List.length_cons, List.length_nil, List.replicate, setAll, wipeD, if_true, if_false, Bool.false_eq_true]
        refine ⟨_, ixN_nat hl, ?_⟩
        have := wr (kk + 1) (some (.int st1.1.2)) (some (exD ex)) (by unfold nextH; rw [if_pos hlt'])
        exact this
      · rename_i hlt
        have hlt' : ¬ kk + 1 < ex.length := by
          have : ¬ (kk : Int) + 1 < ex.length := by simpa using hlt
          omega
        simp only [hp2, o_add, o_addT, o_addL, o_addS, o_sub, o_mul, o_mulT, o_neB, o_isnotB, o_isB, o_fdiv, o_mod, o_pow, o_eqI, o_neI, o_lt, o_le, o_gt, o_ge, o_is, o_isnot, o_in, o_notin, f_abs, f_str, f_int, f_isi, f_len, f_tuple, f_list, asInt_int, ty_append, ty_extend, ty_update, ty_count, ty_index, Lit.d, truth_bl, truth_non, truth_int, truth_tup, seqD_tup, lenD_tup, tyD_bl, tyD_int, tyD_str, tyD_non, tyD_tup, List.getElem?_cons_zero, List.getElem?_cons_succ, List.set_cons_zero, List.set_cons_succ, Option.some.injEq, exists_eq_left', List.map_cons, List.map_nil, List.cons_append, List.nil_append, List.length_cons, List.length_nil, List.replicate, setAll, wipeD, if_true, if_false, Bool.false_eq_true]
        refine ⟨_, ixN_nat hl, ?_⟩
        have := wr 0 (some (.int st1.1.2)) (some (exD ex)) (by unfold nextH; rw [if_neg hlt'])
        exact this
end Mp
namespace Mp
theorem plD_sw (s : Nat) : plD (false, s) = .tup [.str sSw, .int s] := rfl
theorem cut_to {α : Type} (xs : List α) (s : Nat) (h : s ≤ xs.length) : cutD xs none (some (s : Int)) = xs.take s := by
  unfold cutD
  rw [HT.sIx_none, HT.sIx_nat, Nat.min_eq_left h]
  simp
theorem cut_from {α : Type} (xs : List α) (s : Nat) (h : s ≤ xs.length) : cutD xs (some (s : Int)) none = xs.drop s := by
  unfold cutD
  rw [HT.sIx_none, HT.sIx_nat, Nat.min_eq_left h]
  rw [List.take_of_length_le (by rw [List.length_drop]; omega)]
theorem next_mod {len k : Nat} (h : k < len) : ((k : Int) + 1) % len = ((nextH len k : Nat) : Int) := by
  unfold nextH
  split
  · rw [Int.emod_eq_of_lt (by omega) (by omega)]; rfl
  · have : (k : Int) + 1 = len := by omega
    rw [this, Int.emod_self]; rfl
open Classical in
theorem sp_raw_comes {b : Bd} {mc ms me s n : Nat} {hs : List Nat} {st' : Sta} {h : Hh} {X : PX} {Q : PV} (hb : b.Ok mc ms me) (hms : ms ≤ 1000) (hme : me ≤ 1000) (o : stOk b ((false, s), hs)) (r : Runs b ((false, s), hs) n st') (hn : n ≤ 200000)
    (q : ∀ h', Ext h h' → Q (.tup [plD st'.1, haD st'.2]) h') : wpF fn_raw_comes [bdD b, haD hs, .int s] h X Q := by
  simp only [fn_raw_comes, b_raw_comes_1, wpF, wpB, wpS, wpE, wpA, wpO, wpC, wpI, tg_name, tg_nil, tg_cons, o_add, o_addT, o_addL, o_addS, o_sub, o_mul, o_mulT, o_neB, o_isnotB, o_isB, o_fdiv, o_mod, o_pow, o_eqI, o_neI, o_lt, o_le, o_gt, o_ge, o_is, o_isnot, o_in, o_notin, f_abs, f_str, f_int, f_isi, f_len, f_tuple, f_list, asInt_int, ty_append, ty_extend, ty_update, ty_count, ty_index, Lit.d, truth_bl, truth_non, truth_int, truth_tup, seqD_tup, lenD_tup, tyD_bl, tyD_int, tyD_str, tyD_non, tyD_tup, List.getElem?_cons_zero, List.getElem?_cons_succ, List.set_cons_zero, List.set_cons_succ, Option.some.injEq, exists_eq_left', List.map_cons, List.map_nil, List.cons_append, List.nil_append, List.length_cons, List.length_nil, List.replicate, setAll, wipeD, if_true, if_false, Bool.false_eq_true]
  refine ⟨trivial, by decide, ?_⟩
  have := @sp_raw_run b mc ms me ((false, s), hs) st' n 200000 h X
  refine this hb hms hme o r hn fun h' e => ?_
  simp only [b_raw_comes_2, wpB, wpS, wpE, wpA, wpO, wpC, wpI, tg_name, tg_nil, tg_cons, o_add, o_addT, o_addL, o_addS, o_sub, o_mul, o_mulT, o_neB, o_isnotB, o_isB, o_fdiv, o_mod, o_pow, o_eqI, o_neI, o_lt, o_le, o_gt, o_ge, o_is, o_isnot, o_in, o_notin, f_abs, f_str, f_int, f_isi, f_len, f_tuple, f_list, asInt_int, ty_append, ty_extend, ty_update, ty_count, ty_index, Lit.d, truth_bl, truth_non, truth_int, truth_tup, seqD_tup, lenD_tup, tyD_bl, tyD_int, tyD_str, tyD_non, tyD_tup, List.getElem?_cons_zero, List.getElem?_cons_succ, List.set_cons_zero, List.set_cons_succ, Option.some.injEq, exists_eq_left', List.map_cons, List.map_nil, List.cons_append, List.nil_append, List.length_cons, List.length_nil, List.replicate, setAll, wipeD, if_true, if_false, Bool.false_eq_true, Bool.not_true]
  simp only [b_raw_comes_4, wpB, wpS, wpE, wpA, wpO, wpC, wpI, tg_name, tg_nil, tg_cons, o_add, o_addT, o_addL, o_addS, o_sub, o_mul, o_mulT, o_neB, o_isnotB, o_isB, o_fdiv, o_mod, o_pow, o_eqI, o_neI, o_lt, o_le, o_gt, o_ge, o_is, o_isnot, o_in, o_notin, f_abs, f_str, f_int, f_isi, f_len, f_tuple, f_list, asInt_int, ty_append, ty_extend, ty_update, ty_count, ty_index, Lit.d, truth_bl, truth_non, truth_int, truth_tup, seqD_tup, lenD_tup, tyD_bl, tyD_int, tyD_str, tyD_non, tyD_tup, List.getElem?_cons_zero, List.getElem?_cons_succ, List.set_cons_zero, List.set_cons_succ, Option.some.injEq, exists_eq_left', List.map_cons, List.map_nil, List.cons_append, List.nil_append, List.length_cons, List.length_nil, List.replicate, setAll, wipeD, if_true, if_false, Bool.false_eq_true]
  exact ⟨by decide, q h' e⟩
open Classical in
theorem sp_raw_whole {b : Bd} {mc ms me n : Nat} {st st' : Sta} {h : Hh} {X : PX} {Q : PV} (hb : b.Ok mc ms me) (hms : ms ≤ 1000) (hme : me ≤ 1000) (o : stOk b st) (r : Runs b st n st') (hn : n ≤ 200000)
    (q : ∀ h', Ext h h' → Q (.tup [plD st'.1, haD st'.2, .int n]) h') : wpF fn_raw_whole [bdD b, haD st.2, plD st.1] h X Q := by
  simp only [fn_raw_whole, b_raw_whole_1, wpF, wpB, wpS, wpE, wpA, wpO, wpC, wpI, tg_name, tg_nil, tg_cons, o_add, o_addT, o_addL, o_addS, o_sub, o_mul, o_mulT, o_neB, o_isnotB, o_isB, o_fdiv, o_mod, o_pow, o_eqI, o_neI, o_lt, o_le, o_gt, o_ge, o_is, o_isnot, o_in, o_notin, f_abs, f_str, f_int, f_isi, f_len, f_tuple, f_list, asInt_int, ty_append, ty_extend, ty_update, ty_count, ty_index, Lit.d, truth_bl, truth_non, truth_int, truth_tup, seqD_tup, lenD_tup, tyD_bl, tyD_int, tyD_str, tyD_non, tyD_tup, List.getElem?_cons_zero, List.getElem?_cons_succ, List.set_cons_zero, List.set_cons_succ, Option.some.injEq, exists_eq_left', List.map_cons, List.map_nil, List.cons_append, List.nil_append, List.length_cons, List.length_nil, List.replicate, setAll, wipeD, if_true, if_false, Bool.false_eq_true]
  refine ⟨trivial, ?_⟩
  have := @sp_raw_run b mc ms me st st' n 200000 h X
  refine this hb hms hme o r hn fun h' e => ?_
  simp only [b_raw_whole_2, wpB, wpS, wpE, wpA, wpO, wpC, wpI, tg_name, tg_nil, tg_cons, o_add, o_addT, o_addL, o_addS, o_sub, o_mul, o_mulT, o_neB, o_isnotB, o_isB, o_fdiv, o_mod, o_pow, o_eqI, o_neI, o_lt, o_le, o_gt, o_ge, o_is, o_isnot, o_in, o_notin, f_abs, f_str, f_int, f_isi, f_len, f_tuple, f_list, asInt_int, ty_append, ty_extend, ty_update, ty_count, ty_index, Lit.d, truth_bl, truth_non, truth_int, truth_tup, seqD_tup, lenD_tup, tyD_bl, tyD_int, tyD_str, tyD_non, tyD_tup, List.getElem?_cons_zero, List.getElem?_cons_succ, List.set_cons_zero, List.set_cons_succ, Option.some.injEq, exists_eq_left', List.map_cons, List.map_nil, List.cons_append, List.nil_append, List.length_cons, List.length_nil, List.replicate, setAll, wipeD, if_true, if_false, Bool.false_eq_true, Bool.not_true]
  simp only [b_raw_whole_4, wpB, wpS, wpE, wpA, wpO, wpC, wpI, tg_name, tg_nil, tg_cons, o_add, o_addT, o_addL, o_addS, o_sub, o_mul, o_mulT, o_neB, o_isnotB, o_isB, o_fdiv, o_mod, o_pow, o_eqI, o_neI, o_lt, o_le, o_gt, o_ge, o_is, o_isnot, o_in, o_notin, f_abs, f_str, f_int, f_isi, f_len, f_tuple, f_list, asInt_int, ty_append, ty_extend, ty_update, ty_count, ty_index, Lit.d, truth_bl, truth_non, truth_int, truth_tup, seqD_tup, lenD_tup, tyD_bl, tyD_int, tyD_str, tyD_non, tyD_tup, List.getElem?_cons_zero, List.getElem?_cons_succ, List.set_cons_zero, List.set_cons_succ, Option.some.injEq, exists_eq_left', List.map_cons, List.map_nil, List.cons_append, List.nil_append, List.length_cons, List.length_nil, List.replicate, setAll, wipeD, if_true, if_false, Bool.false_eq_true]
  exact ⟨by decide, q h' e⟩
open Classical in
theorem sp__law_way {b : Bd} {mc ms me : Nat} {st st' : Sta} {n : Nat} {h : Hh} {X : PX} {Q : PV} (hb : b.Ok mc ms me) (hms : ms ≤ 1000) (hme : me ≤ 1000) (o : stOk b st) (r : Runs b st n st') (hn : n ≤ 200000)
    (q : ∀ h' p xs, Ext h h' → h p = none → h' p = some (.lst (xs ++ [.tup [plD st'.1, haD st'.2]])) → Q (.ref p) h') : wpF fn__law_way [bdD b, haD st.2, plD st.1] h X Q := by
  simp only [fn__law_way, b__law_way_1, wpF, wpB, wpS, wpE, wpA, wpO, wpC, wpI, tg_name, tg_nil, tg_cons, o_add, o_addT, o_addL, o_addS, o_sub, o_mul, o_mulT, o_neB, o_isnotB, o_isB, o_fdiv, o_mod, o_pow, o_eqI, o_neI, o_lt, o_le, o_gt, o_ge, o_is, o_isnot, o_in, o_notin, f_abs, f_str, f_int, f_isi, f_len, f_tuple, f_list, asInt_int, ty_append, ty_extend, ty_update, ty_count, ty_index, Lit.d, truth_bl, truth_non, truth_int, truth_tup, seqD_tup, lenD_tup, tyD_bl, tyD_int, tyD_str, tyD_non, tyD_tup, List.getElem?_cons_zero, List.getElem?_cons_succ, List.set_cons_zero, List.set_cons_succ, Option.some.injEq, exists_eq_left', List.map_cons, List.map_nil, List.cons_append, List.nil_append, List.length_cons, List.length_nil, List.replicate, setAll, wipeD, if_true, if_false, Bool.false_eq_true]
  refine ⟨trivial, sp__law_lost hb hms hme fun g h1 e1 hg hg1 => ⟨by decide, by decide, fun p hp => ⟨trivial, ?_⟩⟩⟩
  have hpl : ∀ ex ∈ b.sw, ∀ p ∈ ex, plOk b.cups b.sw.length p := fun ex hx => (hb.ex ex hx).2.2
  simp only [b__law_way_2, wpB, wpS, wpE, wpA, wpO, wpC, wpI, tg_name, tg_nil, tg_cons, o_add, o_addT, o_addL, o_addS, o_sub, o_mul, o_mulT, o_neB, o_isnotB, o_isB, o_fdiv, o_mod, o_pow, o_eqI, o_neI, o_lt, o_le, o_gt, o_ge, o_is, o_isnot, o_in, o_notin, f_abs, f_str, f_int, f_isi, f_len, f_tuple, f_list, asInt_int, ty_append, ty_extend, ty_update, ty_count, ty_index, Lit.d, truth_bl, truth_non, truth_int, truth_tup, seqD_tup, lenD_tup, tyD_bl, tyD_int, tyD_str, tyD_non, tyD_tup, List.getElem?_cons_zero, List.getElem?_cons_succ, List.set_cons_zero, List.set_cons_succ, Option.some.injEq, exists_eq_left', List.map_cons, List.map_nil, List.cons_append, List.nil_append, List.length_cons, List.length_nil, List.replicate, setAll, wipeD, if_true, if_false, Bool.false_eq_true]
  refine whl_inv (fun m σ' h' => ∃ st1 o5 xs, ∃ i : Nat, σ' = [some (bdD b), some (haD st1.2), some (plD st1.1), some (.ref g), some (.ref p), o5] ∧ Runs b st1 m st' ∧ i + m = n ∧ xs.length = i ∧ stOk b st1 ∧ Ext h1 h' ∧
    h' p = some (.lst (xs ++ [.tup [plD st1.1, haD st1.2]]))) ?_ (m := n) ⟨st, _, [], 0, rfl, r, by omega, rfl, o, .up hp, up_same⟩
  rintro m σ' h' k ⟨st1, o5, xs, i, rfl, r1, him, hxl, o1, e2, hp2⟩ hk
  have hg2 := e2 _ _ hg1
  simp only [plD, wpB, wpS, wpE, wpA, wpO, wpC, wpI, tg_name, tg_nil, tg_cons, o_add, o_addT, o_addL, o_addS, o_sub, o_mul, o_mulT, o_neB, o_isnotB, o_isB, o_fdiv, o_mod, o_pow, o_eqI, o_neI, o_lt, o_le, o_gt, o_ge, o_is, o_isnot, o_in, o_notin, f_abs, f_str, f_int, f_isi, f_len, f_tuple, f_list, asInt_int, ty_append, ty_extend, ty_update, ty_count, ty_index, Lit.d, truth_bl, truth_non, truth_int, truth_tup, seqD_tup, lenD_tup, tyD_bl, tyD_int, tyD_str, tyD_non, tyD_tup, List.getElem?_cons_zero, List.getElem?_cons_succ, List.set_cons_zero, List.set_cons_succ, Option.some.injEq, exists_eq_left', List.map_cons, List.map_nil, List.cons_append, List.nil_append, List.length_cons, List.length_nil, List.replicate, setAll, wipeD, if_true, if_false, Bool.false_eq_true, ix_tup, atI_0, atI_1, eq_sw, mem_ints hg2]
  by_cases hr : isRest b st1.1
  · obtain ⟨hm, hs⟩ : m = 0 ∧ st1 = st' := by
      cases r1 with
      | stop _ => exact ⟨rfl, rfl⟩
      | step z _ => exact absurd hr z
    subst hs
    have fin : wpB b__law_way_7 [some (bdD b), some (haD st1.2), some (plD st1.1), some (.ref g), some (.ref p), o5] h' X ⟨fun x h1 => Q .non h1, Q, fun _ _ => False, fun _ _ => False⟩ := by
      simp only [b__law_way_7, wpB, wpS, wpE, wpA, wpO, wpC, wpI, tg_name, tg_nil, tg_cons, o_add, o_addT, o_addL, o_addS, o_sub, o_mul, o_mulT, o_neB, o_isnotB, o_isB, o_fdiv, o_mod, o_pow, o_eqI, o_neI, o_lt, o_le, o_gt, o_ge, o_is, o_isnot, o_in, o_notin, f_abs, f_str, f_int, f_isi, f_len, f_tuple, f_list, asInt_int, ty_append, ty_extend, ty_update, ty_count, ty_index, Lit.d, truth_bl, truth_non, truth_int, truth_tup, seqD_tup, lenD_tup, tyD_bl, tyD_int, tyD_str, tyD_non, tyD_tup, List.getElem?_cons_zero, List.getElem?_cons_succ, List.set_cons_zero, List.set_cons_succ, Option.some.injEq, exists_eq_left', List.map_cons, List.map_nil, List.cons_append, List.nil_append, List.length_cons, List.length_nil, List.replicate, setAll, wipeD, if_true, if_false, Bool.false_eq_true]
      exact q h' p xs (e1.trans e2) (fresh_of e1 hp) hp2
    obtain ⟨⟨c, s⟩, hs⟩ := st1
    cases c with
    | true =>
      simp only [Bool.not_true, Bool.false_eq_true, if_false, if_true]
      exact fin
    | false =>
      have : s ∈ lostL b := (lost_mem (b := b) o1.1).mpr (hr.resolve_left (by simp))
      simp only [Bool.not_false, if_true, this, decide_true, Bool.not_true, Bool.false_eq_true, if_false]
      exact fin
  · cases r1 with
    | stop z => exact absurd z hr
    | @step _ _ m _ r2 =>
      obtain ⟨h1', h2', ex, kk, pl, x1, x2, x3, x4, x5⟩ := o1.get hr
      have o2 := o1.step hpl hr
      have nl : st1.1.2 ∉ lostL b := fun z => (lost_mem h2'.lt).mp z h2'
      simp only [h1', nl, Bool.not_false, if_true, decide_false]
      have y1 : L2.atI (b.sw.map exD) (st1.1.2 : Int) = some (exD ex) := atI_map x1
      have y2 : L2.atI (st1.2.map fun n : Nat => D.int n) (st1.1.2 : Int) = some (.int kk) := atI_map x2
      have y3 : L2.atI (ex.map plD) (kk : Int) = some (plD pl) := atI_map x4
      have hlen : st1.2.length ≤ 1000 := by
        have h3 := o1.2.1
        have h4 := hb.s1
        omega
      have hl : st1.1.2 < st1.2.length := (List.getElem?_eq_some_iff.mp x2).1
      simp only [b__law_way_3, b__law_way_4, b__law_way_5, bdD, exD, haD, wpB, wpS, wpE, wpA, wpO, wpC, wpI, tg_name, tg_nil, tg_cons, o_add, o_addT, o_addL, o_addS, o_sub, o_mul, o_mulT, o_neB, o_isnotB, o_isB, o_fdiv, o_mod, o_pow, o_eqI, o_neI, o_lt, o_le, o_gt, o_ge, o_is, o_isnot, o_in, o_notin, f_abs, f_str, f_int, f_isi, f_len, f_tuple, f_list, asInt_int, ty_append, ty_extend, ty_update, ty_count, ty_index, Lit.d, truth_bl, truth_non, truth_int, truth_tup, seqD_tup, lenD_tup, tyD_bl, tyD_int, tyD_str, tyD_non, tyD_tup, List.getElem?_cons_zero, List.getElem?_cons_succ, List.set_cons_zero, List.set_cons_succ, Option.some.injEq, exists_eq_left', List.map_cons, List.map_nil, List.cons_append, List.nil_append, List.length_cons, List.length_nil, List.replicate, setAll, wipeD, if_true, if_false, Bool.false_eq_true, ix_tup, atI_1, y1, y2]
      simp only [exD, wpB, wpS, wpE, wpA, wpO, wpC, wpI, tg_name, tg_nil, tg_cons, o_add, o_addT, o_addL, o_addS, o_sub, o_mul, o_mulT, o_neB, o_isnotB, o_isB, o_fdiv, o_mod, o_pow, o_eqI, o_neI, o_lt, o_le, o_gt, o_ge, o_is, o_isnot, o_in, o_notin, f_abs, f_str, f_int, f_isi, f_len, f_tuple, f_list, asInt_int, ty_append, ty_extend, ty_update, ty_count, ty_index, Lit.d, truth_bl, truth_non, truth_int, truth_tup, seqD_tup, lenD_tup, tyD_bl, tyD_int, tyD_str, tyD_non, tyD_tup, List.getElem?_cons_zero, List.getElem?_cons_succ, List.set_cons_zero, List.set_cons_succ, Option.some.injEq, exists_eq_left', List.map_cons, List.map_nil, List.cons_append, List.nil_append, List.length_cons, List.length_nil, List.replicate, setAll, wipeD, if_true, if_false, Bool.false_eq_true, ix_tup, y1, y2, y3, sl_tup, List.length_map]
      have c1 : cutD (st1.2.map fun n : Nat => D.int n) none (some (st1.1.2 : Int)) = (st1.2.take st1.1.2).map fun n : Nat => D.int n := by
        rw [cut_to _ _ (by rw [List.length_map]; omega), List.map_take]
      have c2 : cutD (st1.2.map fun n : Nat => D.int n) (some ((st1.1.2 : Int) + 1)) none = (st1.2.drop (st1.1.2 + 1)).map fun n : Nat => D.int n := by
        rw [show (st1.1.2 : Int) + 1 = ((st1.1.2 + 1 : Nat) : Int) by omega, cut_from _ _ (by rw [List.length_map]; omega), List.map_drop]
      rw [c1, c2, next_mod x3]
      refine ⟨by omega, by decide, ?_, ?_, ?_⟩
      · simp only [List.length_map, List.length_take]; exact szl2 (by omega)
      · simp only [List.length_map, List.length_take, List.length_append, List.length_drop, List.length_cons, List.length_nil]; exact szl2 (by omega)
      · have eh : ((st1.2.take st1.1.2).map fun n : Nat => D.int n) ++ [D.int (nextH ex.length kk : Nat)] ++ ((st1.2.drop (st1.1.2 + 1)).map fun n : Nat => D.int n) = (st1.2.set st1.1.2 (nextH ex.length kk)).map fun n : Nat => D.int n := by
          rw [List.set_eq_take_append_cons_drop, if_pos hl]
          simp
        rw [eh]
        simp only [b__law_way_6, wpB, wpS, wpE, wpA, wpO, wpC, wpI, tg_name, tg_nil, tg_cons, o_add, o_addT, o_addL, o_addS, o_sub, o_mul, o_mulT, o_neB, o_isnotB, o_isB, o_fdiv, o_mod, o_pow, o_eqI, o_neI, o_lt, o_le, o_gt, o_ge, o_is, o_isnot, o_in, o_notin, f_abs, f_str, f_int, f_isi, f_len, f_tuple, f_list, asInt_int, ty_append, ty_extend, ty_update, ty_count, ty_index, Lit.d, truth_bl, truth_non, truth_int, truth_tup, seqD_tup, lenD_tup, tyD_bl, tyD_int, tyD_str, tyD_non, tyD_tup, List.getElem?_cons_zero, List.getElem?_cons_succ, List.set_cons_zero, List.set_cons_succ, Option.some.injEq, exists_eq_left', List.map_cons, List.map_nil, List.cons_append, List.nil_append, List.length_cons, List.length_nil, List.replicate, setAll, wipeD, if_true, if_false, Bool.false_eq_true, tyD_lst hp2, m_append]
        refine ⟨trivial, by decide, _, hp2, ?_, ?_⟩
        · rw [List.length_append, hxl]; exact szl (by simp; omega)
        · refine hk m _ _ (Nat.lt_succ_self m) ⟨stepS b st1, some (.int (st1.1.2 : Int)), xs ++ [.tup [plD st1.1, haD st1.2]], i + 1, ?_, r2, by omega, by simp [hxl], o2, e2.wr hp, ?_⟩
          · rw [x5]; rfl
          · rw [x5, up_same]; rfl
open Classical in
theorem sp__law_drop {b : Bd} {mc ms me s n : Nat} {hs : List Nat} {st' : Sta} {h : Hh} {X : PX} {Q : PV} (hb : b.Ok mc ms me) (hms : ms ≤ 1000) (hme : me ≤ 1000) (o : stOk b ((false, s), hs)) (r : Runs b ((false, s), hs) n st') (hn : n ≤ 200000)
    (q : ∀ h', Ext h h' → Q (.tup [plD st'.1, haD st'.2]) h') : wpF fn__law_drop [bdD b, haD hs, .int s] h X Q := by
  simp only [fn__law_drop, b__law_drop_1, wpF, wpB, wpS, wpE, wpA, wpO, wpC, wpI, tg_name, tg_nil, tg_cons, o_add, o_addT, o_addL, o_addS, o_sub, o_mul, o_mulT, o_neB, o_isnotB, o_isB, o_fdiv, o_mod, o_pow, o_eqI, o_neI, o_lt, o_le, o_gt, o_ge, o_is, o_isnot, o_in, o_notin, f_abs, f_str, f_int, f_isi, f_len, f_tuple, f_list, asInt_int, ty_append, ty_extend, ty_update, ty_count, ty_index, Lit.d, truth_bl, truth_non, truth_int, truth_tup, seqD_tup, lenD_tup, tyD_bl, tyD_int, tyD_str, tyD_non, tyD_tup, List.getElem?_cons_zero, List.getElem?_cons_succ, List.set_cons_zero, List.set_cons_succ, Option.some.injEq, exists_eq_left', List.map_cons, List.map_nil, List.cons_append, List.nil_append, List.length_cons, List.length_nil, List.replicate, setAll, wipeD, if_true, if_false, Bool.false_eq_true]
  refine ⟨trivial, by decide, ?_⟩
  have := @sp__law_way b mc ms me ((false, s), hs) st' n h X
  refine this hb hms hme o r hn fun h' p xs e hp hp' => ?_
  rw [ix_lst hp']
  exact ⟨_, L2.atI_last _ _, q h' e⟩
end Mp
namespace Mp
/-! ### checks of what is right -/
theorem sp_is_within {i lo hi : Int} {h : Hh} {X : PX} {Q : PV} (a : lo ≤ i) (c : i ≤ hi) (q : Q (.bl true) h) : wpF fn_is_within [.int i, .int lo, .int hi] h X Q := by
  simp only [fn_is_within, b_is_within_1, fn_is_integer, b_is_integer_1, wpF, wpB, wpS, wpE, wpA, wpO, wpC, wpI, tg_name, tg_nil, tg_cons, o_add, o_addT, o_addL, o_addS, o_sub, o_mul, o_mulT, o_neB, o_isnotB, o_isB, o_fdiv, o_mod, o_pow, o_eqI, o_neI, o_lt, o_le, o_gt, o_ge, o_is, o_isnot, o_in, o_notin, f_abs, f_str, f_int, f_isi, f_len, f_tuple, f_list, asInt_int, ty_append, ty_extend, ty_update, ty_count, ty_index, Lit.d, truth_bl, truth_non, truth_int, truth_tup, seqD_tup, lenD_tup, tyD_bl, tyD_int, tyD_str, tyD_non, tyD_tup, List.getElem?_cons_zero, List.getElem?_cons_succ, List.set_cons_zero, List.set_cons_succ, Option.some.injEq, exists_eq_left', List.map_cons, List.map_nil, List.cons_append, List.nil_append, List.length_cons, List.length_nil, List.replicate, setAll, wipeD, if_true, if_false, Bool.false_eq_true]
  simp [isiB, a, c, q]
theorem sp_is_tuple {xs : List D} {n : Nat} {h : Hh} {X : PX} {Q : PV} (a : xs.length = n) (q : Q (.bl true) h) : wpF fn_is_tuple_of [.tup xs, .int n] h X Q := by
  simp only [fn_is_tuple_of, b_is_tuple_of_1, wpF, wpB, wpS, wpE, wpA, wpO, wpC, wpI, tg_name, tg_nil, tg_cons, o_add, o_addT, o_addL, o_addS, o_sub, o_mul, o_mulT, o_neB, o_isnotB, o_isB, o_fdiv, o_mod, o_pow, o_eqI, o_neI, o_lt, o_le, o_gt, o_ge, o_is, o_isnot, o_in, o_notin, f_abs, f_str, f_int, f_isi, f_len, f_tuple, f_list, asInt_int, ty_append, ty_extend, ty_update, ty_count, ty_index, Lit.d, truth_bl, truth_non, truth_int, truth_tup, seqD_tup, lenD_tup, tyD_bl, tyD_int, tyD_str, tyD_non, tyD_tup, List.getElem?_cons_zero, List.getElem?_cons_succ, List.set_cons_zero, List.set_cons_succ, Option.some.injEq, exists_eq_left', List.map_cons, List.map_nil, List.cons_append, List.nil_append, List.length_cons, List.length_nil, List.replicate, setAll, wipeD, if_true, if_false, Bool.false_eq_true]
  simp [isiB, a, q]
theorem sp_is_place {c n : Nat} {p : Bool × Nat} {h : Hh} {X : PX} {Q : PV} (ok : plOk c n p) (q : Q (.bl true) h) : wpF fn_is_place_of [.int c, .int n, plD p] h X Q := by
  simp only [fn_is_place_of, b_is_place_of_1, wpF, wpB, wpS, wpE, wpA, wpO, wpC, wpI, tg_name, tg_nil, tg_cons, o_add, o_addT, o_addL, o_addS, o_sub, o_mul, o_mulT, o_neB, o_isnotB, o_isB, o_fdiv, o_mod, o_pow, o_eqI, o_neI, o_lt, o_le, o_gt, o_ge, o_is, o_isnot, o_in, o_notin, f_abs, f_str, f_int, f_isi, f_len, f_tuple, f_list, asInt_int, ty_append, ty_extend, ty_update, ty_count, ty_index, Lit.d, truth_bl, truth_non, truth_int, truth_tup, seqD_tup, lenD_tup, tyD_bl, tyD_int, tyD_str, tyD_non, tyD_tup, List.getElem?_cons_zero, List.getElem?_cons_succ, List.set_cons_zero, List.set_cons_succ, Option.some.injEq, exists_eq_left', List.map_cons, List.map_nil, List.cons_append, List.nil_append, List.length_cons, List.length_nil, List.replicate, setAll, wipeD, if_true, if_false, Bool.false_eq_true]
  refine ⟨trivial, sp_is_tuple (n := 2) rfl ?_⟩
  simp only [plD, o_add, o_addT, o_addL, o_addS, o_sub, o_mul, o_mulT, o_neB, o_isnotB, o_isB, o_fdiv, o_mod, o_pow, o_eqI, o_neI, o_lt, o_le, o_gt, o_ge, o_is, o_isnot, o_in, o_notin, f_abs, f_str, f_int, f_isi, f_len, f_tuple, f_list, asInt_int, ty_append, ty_extend, ty_update, ty_count, ty_index, Lit.d, truth_bl, truth_non, truth_int, truth_tup, seqD_tup, lenD_tup, tyD_bl, tyD_int, tyD_str, tyD_non, tyD_tup, List.getElem?_cons_zero, List.getElem?_cons_succ, List.set_cons_zero, List.set_cons_succ, Option.some.injEq, exists_eq_left', List.map_cons, List.map_nil, List.cons_append, List.nil_append, List.length_cons, List.length_nil, List.replicate, setAll, wipeD, if_true, if_false, Bool.false_eq_true, ix_tup, atI_0, Bool.not_true]
  have e1 : (!isiB .str .str) = false := rfl
  simp only [e1, o_add, o_addT, o_addL, o_addS, o_sub, o_mul, o_mulT, o_neB, o_isnotB, o_isB, o_fdiv, o_mod, o_pow, o_eqI, o_neI, o_lt, o_le, o_gt, o_ge, o_is, o_isnot, o_in, o_notin, f_abs, f_str, f_int, f_isi, f_len, f_tuple, f_list, asInt_int, ty_append, ty_extend, ty_update, ty_count, ty_index, Lit.d, truth_bl, truth_non, truth_int, truth_tup, seqD_tup, lenD_tup, tyD_bl, tyD_int, tyD_str, tyD_non, tyD_tup, List.getElem?_cons_zero, List.getElem?_cons_succ, List.set_cons_zero, List.set_cons_succ, Option.some.injEq, exists_eq_left', List.map_cons, List.map_nil, List.cons_append, List.nil_append, List.length_cons, List.length_nil, List.replicate, setAll, wipeD, if_true, if_false, Bool.false_eq_true, b_is_place_of_3, wpB, wpS, wpE, ix_tup, atI_0, eq_sw]
  obtain ⟨w, s⟩ := p
  cases w with
  | false =>
    simp only [Bool.not_false, if_true, b_is_place_of_4, wpB, wpS, wpE, wpA, wpO, wpC, wpI, tg_name, tg_nil, tg_cons, o_add, o_addT, o_addL, o_addS, o_sub, o_mul, o_mulT, o_neB, o_isnotB, o_isB, o_fdiv, o_mod, o_pow, o_eqI, o_neI, o_lt, o_le, o_gt, o_ge, o_is, o_isnot, o_in, o_notin, f_abs, f_str, f_int, f_isi, f_len, f_tuple, f_list, asInt_int, ty_append, ty_extend, ty_update, ty_count, ty_index, Lit.d, truth_bl, truth_non, truth_int, truth_tup, seqD_tup, lenD_tup, tyD_bl, tyD_int, tyD_str, tyD_non, tyD_tup, List.getElem?_cons_zero, List.getElem?_cons_succ, List.set_cons_zero, List.set_cons_succ, Option.some.injEq, exists_eq_left', List.map_cons, List.map_nil, List.cons_append, List.nil_append, List.length_cons, List.length_nil, List.replicate, setAll, wipeD, if_true, if_false, Bool.false_eq_true, ix_tup, atI_1]
    have : s < n := ok
    exact sp_is_within (by omega) (by omega) q
  | true =>
    simp only [Bool.not_true, Bool.false_eq_true, if_false, b_is_place_of_5, wpB, wpS, wpE, wpA, wpO, wpC, wpI, tg_name, tg_nil, tg_cons, o_add, o_addT, o_addL, o_addS, o_sub, o_mul, o_mulT, o_neB, o_isnotB, o_isB, o_fdiv, o_mod, o_pow, o_eqI, o_neI, o_lt, o_le, o_gt, o_ge, o_is, o_isnot, o_in, o_notin, f_abs, f_str, f_int, f_isi, f_len, f_tuple, f_list, asInt_int, ty_append, ty_extend, ty_update, ty_count, ty_index, Lit.d, truth_bl, truth_non, truth_int, truth_tup, seqD_tup, lenD_tup, tyD_bl, tyD_int, tyD_str, tyD_non, tyD_tup, List.getElem?_cons_zero, List.getElem?_cons_succ, List.set_cons_zero, List.set_cons_succ, Option.some.injEq, exists_eq_left', List.map_cons, List.map_nil, List.cons_append, List.nil_append, List.length_cons, List.length_nil, List.replicate, setAll, wipeD, if_true, if_false, Bool.false_eq_true, ix_tup, atI_0, atI_1, if_true]
    rw [show opC .eq (.str sCup) (.str sCup) h _ = _ from o_eqS rfl rfl]
    simp only [beq_self_eq_true, truth_bl, Option.some.injEq, exists_eq_left', if_true]
    have : s < c := ok
    exact sp_is_within (by omega) (by omega) q
theorem all_true {α : Type} {xs : List α} : (xs.map fun _ => true).all id = true := by
  induction xs with
  | nil => rfl
  | cons x xs ih => simpa using ih
theorem sp_is_board {b : Bd} {h : Hh} {X : PX} {Q : PV} (hb : b.Ok 4 24 4) (q : ∀ h', Ext h h' → Q (.bl true) h') : wpF fn_is_board [bdD b] h X Q := by
  have c0 := hb.c0
  have c1 := hb.c1
  have s0 := hb.s0
  have s1 := hb.s1
  simp only [fn_is_board, b_is_board_1, bdD, wpF, wpB, wpS, wpE, wpA, wpO, wpC, wpI, tg_name, tg_nil, tg_cons, o_add, o_addT, o_addL, o_addS, o_sub, o_mul, o_mulT, o_neB, o_isnotB, o_isB, o_fdiv, o_mod, o_pow, o_eqI, o_neI, o_lt, o_le, o_gt, o_ge, o_is, o_isnot, o_in, o_notin, f_abs, f_str, f_int, f_isi, f_len, f_tuple, f_list, asInt_int, ty_append, ty_extend, ty_update, ty_count, ty_index, Lit.d, truth_bl, truth_non, truth_int, truth_tup, seqD_tup, lenD_tup, tyD_bl, tyD_int, tyD_str, tyD_non, tyD_tup, List.getElem?_cons_zero, List.getElem?_cons_succ, List.set_cons_zero, List.set_cons_succ, Option.some.injEq, exists_eq_left', List.map_cons, List.map_nil, List.cons_append, List.nil_append, List.length_cons, List.length_nil, List.replicate, setAll, wipeD, if_true, if_false, Bool.false_eq_true]
  refine ⟨trivial, sp_is_tuple (n := 2) rfl ?_⟩
  simp only [o_add, o_addT, o_addL, o_addS, o_sub, o_mul, o_mulT, o_neB, o_isnotB, o_isB, o_fdiv, o_mod, o_pow, o_eqI, o_neI, o_lt, o_le, o_gt, o_ge, o_is, o_isnot, o_in, o_notin, f_abs, f_str, f_int, f_isi, f_len, f_tuple, f_list, asInt_int, ty_append, ty_extend, ty_update, ty_count, ty_index, Lit.d, truth_bl, truth_non, truth_int, truth_tup, seqD_tup, lenD_tup, tyD_bl, tyD_int, tyD_str, tyD_non, tyD_tup, List.getElem?_cons_zero, List.getElem?_cons_succ, List.set_cons_zero, List.set_cons_succ, Option.some.injEq, exists_eq_left', List.map_cons, List.map_nil, List.cons_append, List.nil_append, List.length_cons, List.length_nil, List.replicate, setAll, wipeD, if_true, if_false, Bool.false_eq_true, ix_tup, atI_0, atI_1, Bool.not_true]
  refine sp_is_within (by omega) (by omega) ?_
  have e1 : (!isiB .tuple .tuple) = false := rfl
  simp only [o_add, o_addT, o_addL, o_addS, o_sub, o_mul, o_mulT, o_neB, o_isnotB, o_isB, o_fdiv, o_mod, o_pow, o_eqI, o_neI, o_lt, o_le, o_gt, o_ge, o_is, o_isnot, o_in, o_notin, f_abs, f_str, f_int, f_isi, f_len, f_tuple, f_list, asInt_int, ty_append, ty_extend, ty_update, ty_count, ty_index, Lit.d, truth_bl, truth_non, truth_int, truth_tup, seqD_tup, lenD_tup, tyD_bl, tyD_int, tyD_str, tyD_non, tyD_tup, List.getElem?_cons_zero, List.getElem?_cons_succ, List.set_cons_zero, List.set_cons_succ, Option.some.injEq, exists_eq_left', List.map_cons, List.map_nil, List.cons_append, List.nil_append, List.length_cons, List.length_nil, List.replicate, setAll, wipeD, if_true, if_false, Bool.false_eq_true, Bool.not_true, e1]
  have g1 : decide ((1 : Int) ≤ (b.sw.length : Int)) = true := decide_eq_true (by omega)
  have g2 : decide ((b.sw.length : Int) ≤ 24) = true := decide_eq_true (by omega)
  simp only [b_is_board_3, b_is_board_4, wpB, wpS, wpE, wpA, wpO, wpC, wpI, tg_name, tg_nil, tg_cons, o_add, o_addT, o_addL, o_addS, o_sub, o_mul, o_mulT, o_neB, o_isnotB, o_isB, o_fdiv, o_mod, o_pow, o_eqI, o_neI, o_lt, o_le, o_gt, o_ge, o_is, o_isnot, o_in, o_notin, f_abs, f_str, f_int, f_isi, f_len, f_tuple, f_list, asInt_int, ty_append, ty_extend, ty_update, ty_count, ty_index, Lit.d, truth_bl, truth_non, truth_int, truth_tup, seqD_tup, lenD_tup, tyD_bl, tyD_int, tyD_str, tyD_non, tyD_tup, List.getElem?_cons_zero, List.getElem?_cons_succ, List.set_cons_zero, List.set_cons_succ, Option.some.injEq, exists_eq_left', List.map_cons, List.map_nil, List.cons_append, List.nil_append, List.length_cons, List.length_nil, List.replicate, setAll, wipeD, if_true, if_false, Bool.false_eq_true, List.length_map, g1, g2, D.bl.injEq, Bool.not_true, b_is_board_6]
  refine itr_inv (fun i σ' h' => ∃ o, σ' = [some (D.tup [D.int ↑b.cups, D.tup (List.map exD b.sw)]), o, some (.int b.cups), some (.tup (b.sw.map exD)), none] ∧ Ext h h') (fun _ _ h _ => GOk_nil h) ?_ ?_ ⟨_, rfl, .refl _⟩
  · rintro i x σ' h' k hx ⟨o, rfl, e⟩ hk
    rw [List.getElem?_map] at hx
    obtain ⟨ex, hex, rfl⟩ := Option.map_eq_some_iff.mp hx
    obtain ⟨x1, x2, x3⟩ := hb.ex ex (List.mem_of_getElem? hex)
    have f1 : decide ((1 : Int) ≤ (ex.length : Int)) = true := decide_eq_true (by omega)
    have f2 : decide ((ex.length : Int) ≤ 4) = true := decide_eq_true (by omega)
    simp only [b_is_board_7, exD, wpB, wpS, wpE, wpA, wpO, wpC, wpI, tg_name, tg_nil, tg_cons, o_add, o_addT, o_addL, o_addS, o_sub, o_mul, o_mulT, o_neB, o_isnotB, o_isB, o_fdiv, o_mod, o_pow, o_eqI, o_neI, o_lt, o_le, o_gt, o_ge, o_is, o_isnot, o_in, o_notin, f_abs, f_str, f_int, f_isi, f_len, f_tuple, f_list, asInt_int, ty_append, ty_extend, ty_update, ty_count, ty_index, Lit.d, truth_bl, truth_non, truth_int, truth_tup, seqD_tup, lenD_tup, tyD_bl, tyD_int, tyD_str, tyD_non, tyD_tup, List.getElem?_cons_zero, List.getElem?_cons_succ, List.set_cons_zero, List.set_cons_succ, Option.some.injEq, exists_eq_left', List.map_cons, List.map_nil, List.cons_append, List.nil_append, List.length_cons, List.length_nil, List.replicate, setAll, wipeD, if_true, if_false, Bool.false_eq_true, List.length_map, e1, f1, f2, D.bl.injEq, Bool.not_true, b_is_board_9]
    intro p hp
    refine lc_map hp (by simp; omega) (fun _ => .bl true) (fun h' _ => GOk_nil h') ?_ ?_
    · intro y h2 k2 hy e2 hk2
      obtain ⟨pl, hpl, rfl⟩ := List.mem_map.mp hy
      try simp only [o_add, o_addT, o_addL, o_addS, o_sub, o_mul, o_mulT, o_neB, o_isnotB, o_isB, o_fdiv, o_mod, o_pow, o_eqI, o_neI, o_lt, o_le, o_gt, o_ge, o_is, o_isnot, o_in, o_notin, f_abs, f_str, f_int, f_isi, f_len, f_tuple, f_list, asInt_int, ty_append, ty_extend, ty_update, ty_count, ty_index, Lit.d, truth_bl, truth_non, truth_int, truth_tup, seqD_tup, lenD_tup, tyD_bl, tyD_int, tyD_str, tyD_non, tyD_tup, List.getElem?_cons_zero, List.getElem?_cons_succ, List.set_cons_zero, List.set_cons_succ, Option.some.injEq, exists_eq_left', List.map_cons, List.map_nil, List.cons_append, List.nil_append, List.length_cons, List.length_nil, List.replicate, setAll, wipeD, if_true, if_false, Bool.false_eq_true, List.length_map]
      refine sp_is_place (x3 pl hpl) ?_
      exact hk2 h2 (.refl _)
    · intro h2 e2 hp2
      rw [f_all]
      refine ⟨(ex.map plD).map fun _ => true, by rw [hp2]; simp [Function.comp_def], ?_⟩
      rw [all_true]
      simp only [o_add, o_addT, o_addL, o_addS, o_sub, o_mul, o_mulT, o_neB, o_isnotB, o_isB, o_fdiv, o_mod, o_pow, o_eqI, o_neI, o_lt, o_le, o_gt, o_ge, o_is, o_isnot, o_in, o_notin, f_abs, f_str, f_int, f_isi, f_len, f_tuple, f_list, asInt_int, ty_append, ty_extend, ty_update, ty_count, ty_index, Lit.d, truth_bl, truth_non, truth_int, truth_tup, seqD_tup, lenD_tup, tyD_bl, tyD_int, tyD_str, tyD_non, tyD_tup, List.getElem?_cons_zero, List.getElem?_cons_succ, List.set_cons_zero, List.set_cons_succ, Option.some.injEq, exists_eq_left', List.map_cons, List.map_nil, List.cons_append, List.nil_append, List.length_cons, List.length_nil, List.replicate, setAll, wipeD, if_true, if_false, Bool.false_eq_true, Bool.not_true, wpB]
      exact hk _ _ ⟨some (exD ex), by simp [exD], e.trans e2⟩
  · rintro σ' h' ⟨o, rfl, e⟩
    simp only [b_is_board_11, wpB, wpS, wpE, wpA, wpO, wpC, wpI, tg_name, tg_nil, tg_cons, o_add, o_addT, o_addL, o_addS, o_sub, o_mul, o_mulT, o_neB, o_isnotB, o_isB, o_fdiv, o_mod, o_pow, o_eqI, o_neI, o_lt, o_le, o_gt, o_ge, o_is, o_isnot, o_in, o_notin, f_abs, f_str, f_int, f_isi, f_len, f_tuple, f_list, asInt_int, ty_append, ty_extend, ty_update, ty_count, ty_index, Lit.d, truth_bl, truth_non, truth_int, truth_tup, seqD_tup, lenD_tup, tyD_bl, tyD_int, tyD_str, tyD_non, tyD_tup, List.getElem?_cons_zero, List.getElem?_cons_succ, List.set_cons_zero, List.set_cons_succ, Option.some.injEq, exists_eq_left', List.map_cons, List.map_nil, List.cons_append, List.nil_append, List.length_cons, List.length_nil, List.replicate, setAll, wipeD, if_true, if_false, Bool.false_eq_true]
    exact q h' e
theorem sp_check_board {b : Bd} {h : Hh} {X : PX} {Q : PV} (hb : b.Ok 4 24 4) (q : ∀ h', Ext h h' → Q .non h') : wpF fn_check_board [bdD b] h X Q := by
  simp only [fn_check_board, b_check_board_1, wpF, wpB, wpS, wpE, wpA, wpO, wpC, wpI, tg_name, tg_nil, tg_cons, o_add, o_addT, o_addL, o_addS, o_sub, o_mul, o_mulT, o_neB, o_isnotB, o_isB, o_fdiv, o_mod, o_pow, o_eqI, o_neI, o_lt, o_le, o_gt, o_ge, o_is, o_isnot, o_in, o_notin, f_abs, f_str, f_int, f_isi, f_len, f_tuple, f_list, asInt_int, ty_append, ty_extend, ty_update, ty_count, ty_index, Lit.d, truth_bl, truth_non, truth_int, truth_tup, seqD_tup, lenD_tup, tyD_bl, tyD_int, tyD_str, tyD_non, tyD_tup, List.getElem?_cons_zero, List.getElem?_cons_succ, List.set_cons_zero, List.set_cons_succ, Option.some.injEq, exists_eq_left', List.map_cons, List.map_nil, List.cons_append, List.nil_append, List.length_cons, List.length_nil, List.replicate, setAll, wipeD, if_true, if_false, Bool.false_eq_true]
  refine ⟨trivial, sp_is_board hb fun h' e => ?_⟩
  simp only [o_add, o_addT, o_addL, o_addS, o_sub, o_mul, o_mulT, o_neB, o_isnotB, o_isB, o_fdiv, o_mod, o_pow, o_eqI, o_neI, o_lt, o_le, o_gt, o_ge, o_is, o_isnot, o_in, o_notin, f_abs, f_str, f_int, f_isi, f_len, f_tuple, f_list, asInt_int, ty_append, ty_extend, ty_update, ty_count, ty_index, Lit.d, truth_bl, truth_non, truth_int, truth_tup, seqD_tup, lenD_tup, tyD_bl, tyD_int, tyD_str, tyD_non, tyD_tup, List.getElem?_cons_zero, List.getElem?_cons_succ, List.set_cons_zero, List.set_cons_succ, Option.some.injEq, exists_eq_left', List.map_cons, List.map_nil, List.cons_append, List.nil_append, List.length_cons, List.length_nil, List.replicate, setAll, wipeD, if_true, if_false, Bool.false_eq_true, Bool.not_true, wpB]
  exact q h' e
theorem zip_get {α β γ : Type} {f : α → β → γ} {xs : List α} {ys : List β} {i : Nat} {z : γ} (h : (List.zipWith f xs ys)[i]? = some z) : ∃ x y, xs[i]? = some x ∧ ys[i]? = some y ∧ f x y = z := by
  rw [List.getElem?_zipWith] at h
  split at h
  · rename_i x y e1 e2
    exact ⟨x, y, e1, e2, Option.some.inj h⟩
  · cases h
theorem sp_raw_is_hands {b : Bd} {hs : List Nat} {h : Hh} {X : PX} {Q : PV} (hn : b.sw.length ≤ 1000) (ok : haOk b hs) (q : ∀ h', Ext h h' → Q (.bl true) h') : wpF fn_raw_is_hands [bdD b, haD hs] h X Q := by
  simp only [fn_raw_is_hands, b_raw_is_hands_1, bdD, haD, wpF, wpB, wpS, wpE, wpA, wpO, wpC, wpI, tg_name, tg_nil, tg_cons, o_add, o_addT, o_addL, o_addS, o_sub, o_mul, o_mulT, o_neB, o_isnotB, o_isB, o_fdiv, o_mod, o_pow, o_eqI, o_neI, o_lt, o_le, o_gt, o_ge, o_is, o_isnot, o_in, o_notin, f_abs, f_str, f_int, f_isi, f_len, f_tuple, f_list, asInt_int, ty_append, ty_extend, ty_update, ty_count, ty_index, Lit.d, truth_bl, truth_non, truth_int, truth_tup, seqD_tup, lenD_tup, tyD_bl, tyD_int, tyD_str, tyD_non, tyD_tup, List.getElem?_cons_zero, List.getElem?_cons_succ, List.set_cons_zero, List.set_cons_succ, Option.some.injEq, exists_eq_left', List.map_cons, List.map_nil, List.cons_append, List.nil_append, List.length_cons, List.length_nil, List.replicate, setAll, wipeD, if_true, if_false, Bool.false_eq_true, ix_tup, atI_1, List.length_map]
  refine ⟨trivial, sp_is_tuple (by rw [List.length_map]; exact ok.1) ?_⟩
  simp only [o_add, o_addT, o_addL, o_addS, o_sub, o_mul, o_mulT, o_neB, o_isnotB, o_isB, o_fdiv, o_mod, o_pow, o_eqI, o_neI, o_lt, o_le, o_gt, o_ge, o_is, o_isnot, o_in, o_notin, f_abs, f_str, f_int, f_isi, f_len, f_tuple, f_list, asInt_int, ty_append, ty_extend, ty_update, ty_count, ty_index, Lit.d, truth_bl, truth_non, truth_int, truth_tup, seqD_tup, lenD_tup, tyD_bl, tyD_int, tyD_str, tyD_non, tyD_tup, List.getElem?_cons_zero, List.getElem?_cons_succ, List.set_cons_zero, List.set_cons_succ, Option.some.injEq, exists_eq_left', List.map_cons, List.map_nil, List.cons_append, List.nil_append, List.length_cons, List.length_nil, List.replicate, setAll, wipeD, if_true, if_false, Bool.false_eq_true, Bool.not_true, b_raw_is_hands_3, wpB, wpS, wpE, wpA, wpI, ix_tup, atI_1]
  intro p hp
  refine lc_map hp (by rw [List.length_zipWith, List.length_map, List.length_map]; omega) (fun _ => .bl true) (fun h' _ => GOk_nil h') ?_ ?_
  · intro y h2 k2 hy e2 hk2
    obtain ⟨i, hi⟩ := List.getElem?_of_mem hy
    obtain ⟨x1, x2, e3, e4, rfl⟩ := zip_get hi
    rw [List.getElem?_map] at e3 e4
    obtain ⟨n, hn1, rfl⟩ := Option.map_eq_some_iff.mp e3
    obtain ⟨ex, hx1, rfl⟩ := Option.map_eq_some_iff.mp e4
    have := ok.2 i n ex hn1 hx1
    simp only [exD, wpB, wpS, wpE, wpA, wpO, wpC, wpI, tg_name, tg_nil, tg_cons, o_add, o_addT, o_addL, o_addS, o_sub, o_mul, o_mulT, o_neB, o_isnotB, o_isB, o_fdiv, o_mod, o_pow, o_eqI, o_neI, o_lt, o_le, o_gt, o_ge, o_is, o_isnot, o_in, o_notin, f_abs, f_str, f_int, f_isi, f_len, f_tuple, f_list, asInt_int, ty_append, ty_extend, ty_update, ty_count, ty_index, Lit.d, truth_bl, truth_non, truth_int, truth_tup, seqD_tup, lenD_tup, tyD_bl, tyD_int, tyD_str, tyD_non, tyD_tup, List.getElem?_cons_zero, List.getElem?_cons_succ, List.set_cons_zero, List.set_cons_succ, Option.some.injEq, exists_eq_left', List.map_cons, List.map_nil, List.cons_append, List.nil_append, List.length_cons, List.length_nil, List.replicate, setAll, wipeD, if_true, if_false, Bool.false_eq_true, List.length_map]
    refine sp_is_within (by omega) (by omega) ?_
    exact hk2 h2 (.refl _)
  · intro h2 e2 hp2
    rw [f_all]
    refine ⟨(List.zipWith (fun x y => D.tup [x, y]) (hs.map fun n : Nat => D.int n) (b.sw.map exD)).map fun _ => true, by rw [hp2]; simp [Function.comp_def], ?_⟩
    rw [all_true]
    exact q h2 e2
theorem sp_check_hands {b : Bd} {hs : List Nat} {h : Hh} {X : PX} {Q : PV} (hb : b.Ok 4 24 4) (ok : haOk b hs) (q : ∀ h', Ext h h' → Q .non h') : wpF fn_check_hands [bdD b, haD hs] h X Q := by
  simp only [fn_check_hands, b_check_hands_1, wpF, wpB, wpS, wpE, wpA, wpO, wpC, wpI, tg_name, tg_nil, tg_cons, o_add, o_addT, o_addL, o_addS, o_sub, o_mul, o_mulT, o_neB, o_isnotB, o_isB, o_fdiv, o_mod, o_pow, o_eqI, o_neI, o_lt, o_le, o_gt, o_ge, o_is, o_isnot, o_in, o_notin, f_abs, f_str, f_int, f_isi, f_len, f_tuple, f_list, asInt_int, ty_append, ty_extend, ty_update, ty_count, ty_index, Lit.d, truth_bl, truth_non, truth_int, truth_tup, seqD_tup, lenD_tup, tyD_bl, tyD_int, tyD_str, tyD_non, tyD_tup, List.getElem?_cons_zero, List.getElem?_cons_succ, List.set_cons_zero, List.set_cons_succ, Option.some.injEq, exists_eq_left', List.map_cons, List.map_nil, List.cons_append, List.nil_append, List.length_cons, List.length_nil, List.replicate, setAll, wipeD, if_true, if_false, Bool.false_eq_true]
  refine ⟨trivial, sp_check_board hb fun h' e => ?_⟩
  simp only [b_check_hands_2, wpB, wpS, wpE, wpA, wpO, wpC, wpI, tg_name, tg_nil, tg_cons, o_add, o_addT, o_addL, o_addS, o_sub, o_mul, o_mulT, o_neB, o_isnotB, o_isB, o_fdiv, o_mod, o_pow, o_eqI, o_neI, o_lt, o_le, o_gt, o_ge, o_is, o_isnot, o_in, o_notin, f_abs, f_str, f_int, f_isi, f_len, f_tuple, f_list, asInt_int, ty_append, ty_extend, ty_update, ty_count, ty_index, Lit.d, truth_bl, truth_non, truth_int, truth_tup, seqD_tup, lenD_tup, tyD_bl, tyD_int, tyD_str, tyD_non, tyD_tup, List.getElem?_cons_zero, List.getElem?_cons_succ, List.set_cons_zero, List.set_cons_succ, Option.some.injEq, exists_eq_left', List.map_cons, List.map_nil, List.cons_append, List.nil_append, List.length_cons, List.length_nil, List.replicate, setAll, wipeD, if_true, if_false, Bool.false_eq_true]
  refine sp_raw_is_hands (by have := hb.s1; omega) ok fun h2 e2 => ?_
  simp only [o_add, o_addT, o_addL, o_addS, o_sub, o_mul, o_mulT, o_neB, o_isnotB, o_isB, o_fdiv, o_mod, o_pow, o_eqI, o_neI, o_lt, o_le, o_gt, o_ge, o_is, o_isnot, o_in, o_notin, f_abs, f_str, f_int, f_isi, f_len, f_tuple, f_list, asInt_int, ty_append, ty_extend, ty_update, ty_count, ty_index, Lit.d, truth_bl, truth_non, truth_int, truth_tup, seqD_tup, lenD_tup, tyD_bl, tyD_int, tyD_str, tyD_non, tyD_tup, List.getElem?_cons_zero, List.getElem?_cons_succ, List.set_cons_zero, List.set_cons_succ, Option.some.injEq, exists_eq_left', List.map_cons, List.map_nil, List.cons_append, List.nil_append, List.length_cons, List.length_nil, List.replicate, setAll, wipeD, if_true, if_false, Bool.false_eq_true, Bool.not_true, wpB]
  exact q h2 (e.trans e2)
theorem sp_check_switch {b : Bd} {s : Nat} {h : Hh} {X : PX} {Q : PV} (hs : s < b.sw.length) (q : Q .non h) : wpF fn_check_switch [bdD b, .int s] h X Q := by
  simp only [fn_check_switch, b_check_switch_1, fn_is_switch, b_is_switch_1, bdD, wpF, wpB, wpS, wpE, wpA, wpO, wpC, wpI, tg_name, tg_nil, tg_cons, o_add, o_addT, o_addL, o_addS, o_sub, o_mul, o_mulT, o_neB, o_isnotB, o_isB, o_fdiv, o_mod, o_pow, o_eqI, o_neI, o_lt, o_le, o_gt, o_ge, o_is, o_isnot, o_in, o_notin, f_abs, f_str, f_int, f_isi, f_len, f_tuple, f_list, asInt_int, ty_append, ty_extend, ty_update, ty_count, ty_index, Lit.d, truth_bl, truth_non, truth_int, truth_tup, seqD_tup, lenD_tup, tyD_bl, tyD_int, tyD_str, tyD_non, tyD_tup, List.getElem?_cons_zero, List.getElem?_cons_succ, List.set_cons_zero, List.set_cons_succ, Option.some.injEq, exists_eq_left', List.map_cons, List.map_nil, List.cons_append, List.nil_append, List.length_cons, List.length_nil, List.replicate, setAll, wipeD, if_true, if_false, Bool.false_eq_true, ix_tup, atI_1, List.length_map]
  have e : decide ((0 : Int) ≤ (s : Int)) = true := decide_eq_true (by omega)
  have e2 : decide ((s : Int) < (b.sw.length : Int)) = true := decide_eq_true (by omega)
  have e3 : isiB .int .int = true := rfl
  have e4 : isiB .int .bool = false := rfl
  simp only [e, e2, e3, e4, Bool.not_false, Bool.not_true, o_add, o_addT, o_addL, o_addS, o_sub, o_mul, o_mulT, o_neB, o_isnotB, o_isB, o_fdiv, o_mod, o_pow, o_eqI, o_neI, o_lt, o_le, o_gt, o_ge, o_is, o_isnot, o_in, o_notin, f_abs, f_str, f_int, f_isi, f_len, f_tuple, f_list, asInt_int, ty_append, ty_extend, ty_update, ty_count, ty_index, Lit.d, truth_bl, truth_non, truth_int, truth_tup, seqD_tup, lenD_tup, tyD_bl, tyD_int, tyD_str, tyD_non, tyD_tup, List.getElem?_cons_zero, List.getElem?_cons_succ, List.set_cons_zero, List.set_cons_succ, Option.some.injEq, exists_eq_left', List.map_cons, List.map_nil, List.cons_append, List.nil_append, List.length_cons, List.length_nil, List.replicate, setAll, wipeD, if_true, if_false, Bool.false_eq_true, D.bl.injEq]
  exact ⟨trivial, trivial, q⟩
theorem sp_raw_is_place {b : Bd} {p : Bool × Nat} {h : Hh} {X : PX} {Q : PV} (ok : plOk b.cups b.sw.length p) (q : Q (.bl true) h) : wpF fn_raw_is_place [bdD b, plD p] h X Q := by
  simp only [fn_raw_is_place, b_raw_is_place_1, bdD, wpF, wpB, wpS, wpE, wpA, wpO, wpC, wpI, tg_name, tg_nil, tg_cons, o_add, o_addT, o_addL, o_addS, o_sub, o_mul, o_mulT, o_neB, o_isnotB, o_isB, o_fdiv, o_mod, o_pow, o_eqI, o_neI, o_lt, o_le, o_gt, o_ge, o_is, o_isnot, o_in, o_notin, f_abs, f_str, f_int, f_isi, f_len, f_tuple, f_list, asInt_int, ty_append, ty_extend, ty_update, ty_count, ty_index, Lit.d, truth_bl, truth_non, truth_int, truth_tup, seqD_tup, lenD_tup, tyD_bl, tyD_int, tyD_str, tyD_non, tyD_tup, List.getElem?_cons_zero, List.getElem?_cons_succ, List.set_cons_zero, List.set_cons_succ, Option.some.injEq, exists_eq_left', List.map_cons, List.map_nil, List.cons_append, List.nil_append, List.length_cons, List.length_nil, List.replicate, setAll, wipeD, if_true, if_false, Bool.false_eq_true, ix_tup, atI_0, atI_1, List.length_map]
  exact ⟨trivial, sp_is_place ok q⟩
theorem plD_inj {p q : Bool × Nat} (h : plD p = plD q) : p = q := by
  obtain ⟨c, n⟩ := p
  obtain ⟨d, m⟩ := q
  simp only [plD, D.tup.injEq, List.cons.injEq, D.str.injEq, D.int.injEq, and_true] at h
  obtain ⟨h1, h2⟩ := h
  have : n = m := by omega
  subst this
  cases c <;> cases d <;> first | rfl | (simp at h1; done)
theorem rest_mem {b : Bd} {p : Bool × Nat} (ok : plOk b.cups b.sw.length p) : p ∈ restL b ↔ isRest b p := by
  obtain ⟨c, n⟩ := p
  unfold restL
  rw [List.mem_append, List.mem_map, List.mem_map]
  cases c with
  | true =>
    refine ⟨fun _ => .inl rfl, fun _ => .inl ⟨n, List.mem_range.mpr ok, rfl⟩⟩
  | false =>
    constructor
    · rintro (⟨x, _, e⟩ | ⟨x, hx, e⟩)
      · cases e
      · cases e
        exact .inr ((lost_mem ok).mp hx)
    · intro h
      exact .inr ⟨n, (lost_mem ok).mpr (h.resolve_left (by simp)), rfl⟩
open Classical in
theorem sp_check_rest {b : Bd} {mc ms me : Nat} {p : Bool × Nat} {h : Hh} {X : PX} {Q : PV} (hb : b.Ok mc ms me) (hmc : mc ≤ 1000) (hms : ms ≤ 1000) (hme : me ≤ 1000) (ok : plOk b.cups b.sw.length p) (hr : isRest b p) (q : ∀ h', Ext h h' → Q .non h') : wpF fn_check_rest [bdD b, plD p] h X Q := by
  simp only [fn_check_rest, b_check_rest_1, wpF, wpB, wpS, wpE, wpA, wpO, wpC, wpI, tg_name, tg_nil, tg_cons, o_add, o_addT, o_addL, o_addS, o_sub, o_mul, o_mulT, o_neB, o_isnotB, o_isB, o_fdiv, o_mod, o_pow, o_eqI, o_neI, o_lt, o_le, o_gt, o_ge, o_is, o_isnot, o_in, o_notin, f_abs, f_str, f_int, f_isi, f_len, f_tuple, f_list, asInt_int, ty_append, ty_extend, ty_update, ty_count, ty_index, Lit.d, truth_bl, truth_non, truth_int, truth_tup, seqD_tup, lenD_tup, tyD_bl, tyD_int, tyD_str, tyD_non, tyD_tup, List.getElem?_cons_zero, List.getElem?_cons_succ, List.set_cons_zero, List.set_cons_succ, Option.some.injEq, exists_eq_left', List.map_cons, List.map_nil, List.cons_append, List.nil_append, List.length_cons, List.length_nil, List.replicate, setAll, wipeD, if_true, if_false, Bool.false_eq_true]
  refine ⟨trivial, sp_raw_is_place ok ?_⟩
  simp only [o_add, o_addT, o_addL, o_addS, o_sub, o_mul, o_mulT, o_neB, o_isnotB, o_isB, o_fdiv, o_mod, o_pow, o_eqI, o_neI, o_lt, o_le, o_gt, o_ge, o_is, o_isnot, o_in, o_notin, f_abs, f_str, f_int, f_isi, f_len, f_tuple, f_list, asInt_int, ty_append, ty_extend, ty_update, ty_count, ty_index, Lit.d, truth_bl, truth_non, truth_int, truth_tup, seqD_tup, lenD_tup, tyD_bl, tyD_int, tyD_str, tyD_non, tyD_tup, List.getElem?_cons_zero, List.getElem?_cons_succ, List.set_cons_zero, List.set_cons_succ, Option.some.injEq, exists_eq_left', List.map_cons, List.map_nil, List.cons_append, List.nil_append, List.length_cons, List.length_nil, List.replicate, setAll, wipeD, if_true, if_false, Bool.false_eq_true, Bool.not_true]
  refine sp_raw_all_rests hb hmc hms hme fun r h' e _ hr2 => ?_
  rw [mem_P hr2 (pl_place p) (by
    rw [List.all_map]
    exact List.all_eq_true.mpr fun x _ => pl_place x)]
  have : plD p ∈ (restL b).map plD := List.mem_map.mpr ⟨p, (rest_mem ok).mpr hr, rfl⟩
  simp only [this, decide_true, Bool.not_true, o_add, o_addT, o_addL, o_addS, o_sub, o_mul, o_mulT, o_neB, o_isnotB, o_isB, o_fdiv, o_mod, o_pow, o_eqI, o_neI, o_lt, o_le, o_gt, o_ge, o_is, o_isnot, o_in, o_notin, f_abs, f_str, f_int, f_isi, f_len, f_tuple, f_list, asInt_int, ty_append, ty_extend, ty_update, ty_count, ty_index, Lit.d, truth_bl, truth_non, truth_int, truth_tup, seqD_tup, lenD_tup, tyD_bl, tyD_int, tyD_str, tyD_non, tyD_tup, List.getElem?_cons_zero, List.getElem?_cons_succ, List.set_cons_zero, List.set_cons_succ, Option.some.injEq, exists_eq_left', List.map_cons, List.map_nil, List.cons_append, List.nil_append, List.length_cons, List.length_nil, List.replicate, setAll, wipeD, if_true, if_false, Bool.false_eq_true, wpB]
  exact q h' e
end Mp
namespace Mp
/-! ### the fewest hands turned -/
def diffN : List Nat → List Nat → Nat
  | a :: as, b :: bs => (if a = b then 0 else 1) + diffN as bs
  | _, _ => 0
theorem diffN_self : ∀ hs : List Nat, diffN hs hs = 0
  | [] => rfl
  | a :: as => by
    show (if a = a then 0 else 1) + diffN as as = 0
    rw [if_pos rfl, diffN_self as]
theorem diffN_pos : ∀ {hs ks : List Nat}, hs.length = ks.length → hs ≠ ks → 1 ≤ diffN hs ks
  | [], [], _, n => absurd rfl n
  | a :: as, b :: bs, l, n => by
    show 1 ≤ (if a = b then 0 else 1) + diffN as bs
    by_cases e : a = b
    · subst e
      have := diffN_pos (hs := as) (ks := bs) (by simpa using l) fun z => n (by rw [z])
      omega
    · rw [if_neg e]; omega
  | [], _ :: _, l, _ => by cases l
  | _ :: _, [], l, _ => by cases l
theorem diffN_le : ∀ hs ks : List Nat, diffN hs ks ≤ hs.length
  | [], _ => Nat.le_refl _
  | _ :: _, [] => Nat.zero_le _
  | a :: as, b :: bs => by
    show (if a = b then 0 else 1) + diffN as bs ≤ as.length + 1
    have := diffN_le as bs
    split <;> omega
theorem un_comp {hs ks : List Nat} {h : Hh} {p : Nat} {σ : En} {turn : D → En → Hh → (En → Hh → Prop) → Prop} {fin : En → Hh → Prop} (hp : h p = none) (hl : hs.length ≤ 1000)
    (ht : ∀ (a c : Nat) h2 (k : En → Hh → Prop), Ext h h2 → (if a = c then k σ h2 else ∃ acc, h2 p = some (.lst acc) ∧ acc.length < sz ∧ k σ (up h2 p (.lst (acc ++ [.int 1])))) → turn (.tup [.int a, .int c]) σ h2 k)
    (hfin : ∀ h' xs, Ext h h' → h' p = some (.lst xs) → xs.length = diffN hs ks → fin σ h') :
    itr [] turn fin (List.zipWith (fun x y => D.tup [x, y]) (hs.map fun n : Nat => D.int n) (ks.map fun n : Nat => D.int n)) σ (up h p (.lst [])) := by
  refine lc_fm hp (by rw [List.length_zipWith, List.length_map]; omega) (fun x => match x with | .tup [.int a, .int c] => if a = c then none else some (.int 1) | _ => none) (fun h' _ => GOk_nil h') ?_ ?_
  · intro x h2 k hx e hk
    obtain ⟨i, hi⟩ := List.getElem?_of_mem hx
    obtain ⟨x1, x2, e3, e4, rfl⟩ := zip_get hi
    rw [List.getElem?_map] at e3 e4
    obtain ⟨a, _, rfl⟩ := Option.map_eq_some_iff.mp e3
    obtain ⟨c, _, rfl⟩ := Option.map_eq_some_iff.mp e4
    refine ht a c h2 k e ?_
    have := hk h2 (.refl _)
    by_cases hac : a = c
    · subst hac; simpa using this
    · have : ¬ (a : Int) = c := by omega
      simp only [this, if_false] at *
      simpa [hac] using hk h2 (.refl _)
  · intro h' e hp'
    refine hfin h' _ e hp' ?_
    clear hp' ht hfin
    induction hs generalizing ks with
    | nil => rfl
    | cons a as ih =>
      cases ks with
      | nil => rfl
      | cons c cs =>
        rw [List.map_cons, List.map_cons, List.zipWith_cons_cons, List.filterMap_cons]
        show _ = (if a = c then 0 else 1) + diffN as cs
        have ih := ih (ks := cs) (by simp at hl; omega)
        by_cases hac : a = c
        · subst hac; simpa using ih
        · have : ¬ (a : Int) = c := by omega
          simp only [this, if_false, hac, List.length_cons]
          omega
open Classical in
/-- where the ball ends -/
noncomputable def endP (b : Bd) (s : Nat) (hs : List Nat) : Bool × Nat := if h : ∃ n st', Runs b ((false, s), hs) n st' then (Classical.choose (Classical.choose_spec h)).1 else (true, 0)
theorem endP_of {b : Bd} {s n : Nat} {hs : List Nat} {st' : Sta} (r : Runs b ((false, s), hs) n st') : endP b s hs = st'.1 := by
  unfold endP
  have h : ∃ n st', Runs b ((false, s), hs) n st' := ⟨n, st', r⟩
  rw [dif_pos h]
  have := Classical.choose_spec (Classical.choose_spec h)
  rw [(this.det r).2]
def keyD (k : Nat × List Nat) : D := .tup [.int k.1, haD k.2]
def bestD : Option (Nat × List Nat) → D
  | none => .non
  | some k => keyD k
open Classical in
/-- a turn of the search -/
noncomputable def bestF (b : Bd) (s : Nat) (hs : List Nat) (pl : Bool × Nat) (best : Option (Nat × List Nat)) (o : List Nat) : Option (Nat × List Nat) :=
  if (best = none ∨ ltD (keyD (diffN hs o, o)) (bestD best) = true) ∧ endP b s o = pl then some (diffN hs o, o) else best
theorem pl_ha (n : Nat) (hs : List Nat) : pl (n + 1) (haD hs) = true := pl_ints n hs
theorem pl_key (k : Nat × List Nat) : pl 20 (keyD k) = true := by
  show ([D.int k.1, haD k.2].all (pl 19)) = true
  simp [pl_int, pl_ha]
theorem alk_ha : ∀ as bs : List Nat, alkAll (as.map fun n : Nat => D.int n) (bs.map fun n : Nat => D.int n) = true
  | [], _ => by rfl
  | _ :: _, [] => by rfl
  | a :: as, b :: bs => by
    show (alk (.int a) (.int b) && alkAll _ _) = true
    rw [alk_ha as bs]; rfl
theorem alk_key (k l : Nat × List Nat) : alk (keyD k) (keyD l) = true := by
  show (alk (.int k.1) (.int l.1) && (alk (haD k.2) (haD l.2) && alkAll [] [])) = true
  have : alk (haD k.2) (haD l.2) = true := alk_ha _ _
  rw [this]; rfl
/-- all that is known of a search: each setting comes to rest -/
def Rests (b : Bd) : Prop := ∀ st, stOk b st → ∃ n st', n ≤ 200000 ∧ Runs b st n st' ∧ stOk b st' ∧ isRest b st'.1
theorem all_ok {b : Bd} : ∀ hs ∈ allL b.sw, haOk b hs := by
  suffices h : ∀ i, i ≤ b.sw.length → ∀ hs ∈ allL (b.sw.take i), ∀ (j n : Nat) (ex : List (Bool × Nat)), hs[j]? = some n → b.sw[j]? = some ex → n < ex.length by
    intro hs hm
    refine ⟨all_mem_len _ hs hm, ?_⟩
    have := h b.sw.length (Nat.le_refl _) hs (by rw [List.take_length]; exact hm)
    exact this
  intro i
  induction i with
  | zero =>
    intro _ hs hm j n ex h1
    rw [List.take_zero] at hm
    have : hs = [] := by simpa [allL] using hm
    subst this; simp at h1
  | succ i ih =>
    intro hi hs hm j n ex h1 h2
    have hx : b.sw[i]? = some b.sw[i] := List.getElem?_eq_getElem hi
    rw [take_get hx, allL_snoc] at hm
    unfold longer at hm
    obtain ⟨one, m1, m2⟩ := List.mem_flatMap.mp hm
    obtain ⟨e, m3, rfl⟩ := List.mem_map.mp m2
    have hol : one.length = i := by
      have := all_mem_len _ one m1
      rw [this, List.length_take]; omega
    by_cases hj : j < i
    · rw [List.getElem?_append_left (by omega)] at h1
      exact ih (by omega) one m1 j n ex h1 h2
    · rw [List.getElem?_append_right (by omega)] at h1
      have : j = i := by
        by_cases z : j - one.length = 0
        · omega
        · rw [List.getElem?_eq_none (by simp; omega)] at h1; cases h1
      subst this
      rw [hx] at h2; cases h2
      have : e = n := by simpa [hol] using h1
      subst this
      exact List.mem_range.mp m3
theorem mem_all {b : Bd} {hs : List Nat} (ok : haOk b hs) : hs ∈ allL b.sw := by
  suffices h : ∀ i, i ≤ b.sw.length → hs.take i ∈ allL (b.sw.take i) by
    have := h b.sw.length (Nat.le_refl _)
    rwa [List.take_length, ← ok.1, List.take_length] at this
  intro i
  induction i with
  | zero => intro _; rw [List.take_zero, List.take_zero]; simp [allL]
  | succ i ih =>
    intro hi
    have hx : b.sw[i]? = some b.sw[i] := List.getElem?_eq_getElem hi
    have hl : i < hs.length := by rw [ok.1]; exact hi
    have hy : hs[i]? = some hs[i] := List.getElem?_eq_getElem hl
    rw [take_get hx, take_get hy, allL_snoc]
    unfold longer
    exact List.mem_flatMap.mpr ⟨_, ih (by omega), List.mem_map.mpr ⟨_, List.mem_range.mpr (ok.2 i _ _ hy hx), rfl⟩⟩
end Mp
namespace Mp
/-! ### the law -/
theorem fold_some {b : Bd} {s : Nat} {hs : List Nat} {pl : Bool × Nat} : ∀ (xs : List (List Nat)) (k : Nat × List Nat), endP b s k.2 = pl → ∃ k', xs.foldl (bestF b s hs pl) (some k) = some k' ∧ endP b s k'.2 = pl ∧ (k' = k ∨ k'.2 ∈ xs) ∧
    keyD k' = ((xs.filter fun o => decide (endP b s o = pl)).map fun o => keyD (diffN hs o, o)).foldl (fun m y => if ltD y m then y else m) (keyD k)
  | [], k, hk => ⟨k, rfl, hk, .inl rfl, rfl⟩
  | o :: xs, k, hk => by
    rw [List.foldl_cons, List.filter_cons]
    by_cases e : endP b s o = pl
    · rw [if_pos (by simpa using e), List.map_cons, List.foldl_cons]
      by_cases lt : ltD (keyD (diffN hs o, o)) (keyD k) = true
      · have hb : bestF b s hs pl (some k) o = some (diffN hs o, o) := by
          unfold bestF
          rw [if_pos ⟨.inr lt, e⟩]
        rw [hb, if_pos lt]
        obtain ⟨k', h1, h2, h3, h4⟩ := fold_some xs (diffN hs o, o) e
        refine ⟨k', h1, h2, .inr ?_, h4⟩
        rcases h3 with rfl | h3
        · exact List.mem_cons_self
        · exact List.mem_cons_of_mem _ h3
      · have hb : bestF b s hs pl (some k) o = some k := by
          unfold bestF
          rw [if_neg]
          rintro ⟨z | z, _⟩
          · cases z
          · exact lt z
        rw [hb, if_neg lt]
        obtain ⟨k', h1, h2, h3, h4⟩ := fold_some xs k hk
        exact ⟨k', h1, h2, h3.imp id (List.mem_cons_of_mem _), h4⟩
    · have hb : bestF b s hs pl (some k) o = some k := by
        unfold bestF
        rw [if_neg fun z => e z.2]
      rw [hb, if_neg (by simpa using e)]
      obtain ⟨k', h1, h2, h3, h4⟩ := fold_some xs k hk
      exact ⟨k', h1, h2, h3.imp id (List.mem_cons_of_mem _), h4⟩
noncomputable def pairsL (b : Bd) (s : Nat) (hs : List Nat) (pl : Bool × Nat) (xs : List (List Nat)) : List D :=
  (xs.filter fun o => decide (endP b s o = pl)).map fun o => keyD (diffN hs o, o)
theorem fold_none {b : Bd} {s : Nat} {hs : List Nat} {pl : Bool × Nat} : ∀ (xs : List (List Nat)),
    (pairsL b s hs pl xs = [] ∧ xs.foldl (bestF b s hs pl) none = none) ∨ ∃ k, xs.foldl (bestF b s hs pl) none = some k ∧ endP b s k.2 = pl ∧ k.2 ∈ xs ∧ minL (pairsL b s hs pl xs) = some (keyD k) ∧ pairsL b s hs pl xs ≠ []
  | [] => .inl ⟨rfl, rfl⟩
  | o :: xs => by
    unfold pairsL
    rw [List.foldl_cons, List.filter_cons]
    by_cases e : endP b s o = pl
    · have hb : bestF b s hs pl none o = some (diffN hs o, o) := by
        unfold bestF
        rw [if_pos ⟨.inl rfl, e⟩]
      rw [hb, if_pos (by simpa using e), List.map_cons]
      obtain ⟨k', h1, h2, h3, h4⟩ := fold_some (hs := hs) xs (diffN hs o, o) e
      refine .inr ⟨k', h1, h2, ?_, ?_, by simp⟩
      · rcases h3 with rfl | h3
        · exact List.mem_cons_self
        · exact List.mem_cons_of_mem _ h3
      · show some _ = _
        rw [h4]
    · have hb : bestF b s hs pl none o = none := by
        unfold bestF
        rw [if_neg fun z => e z.2]
      rw [hb, if_neg (by simpa using e)]
      rcases fold_none (b := b) (s := s) (hs := hs) (pl := pl) xs with ⟨h1, h2⟩ | ⟨k, h1, h2, h3, h4, h5⟩
      · exact .inl ⟨h1, h2⟩
      · exact .inr ⟨k, h1, h2, List.mem_cons_of_mem _ h3, h4, h5⟩
theorem lt_zero {c : Nat} {x y : D} (h : 1 ≤ c) : ltD (.tup [.int 0, x]) (.tup [.int c, y]) = true := by
  show (if eqv (.int 0) (.int c) then ltAll [x] [y] else ltD (.int 0) (.int c)) = true
  have : eqv (.int 0) (.int c) = false := by
    show ((0 : Int) == (c : Int)) = false
    rw [beq_eq_false_iff_ne]; omega
  rw [this]
  show decide ((0 : Int) < c) = true
  exact decide_eq_true (by omega)
theorem not_lt_zero {c : Nat} {x y : D} (h : 1 ≤ c) : ltD (.tup [.int c, x]) (.tup [.int 0, y]) = false := by
  show (if eqv (.int c) (.int 0) then ltAll [x] [y] else ltD (.int c) (.int 0)) = false
  have : eqv (.int c) (.int 0) = false := by
    show ((c : Int) == (0 : Int)) = false
    rw [beq_eq_false_iff_ne]; omega
  rw [this]
  show decide ((c : Int) < 0) = false
  exact decide_eq_false (by omega)
/-- among its own: nothing turned -/
theorem best_own {b : Bd} {s : Nat} {hs : List Nat} : ∀ (xs : List (List Nat)) (best : Option (Nat × List Nat)), (∀ o ∈ xs, o.length = hs.length) → (best = none ∨ (∃ c o, best = some (c, o) ∧ 1 ≤ c) ∨ best = some (0, hs)) →
    (hs ∈ xs ∨ best = some (0, hs)) → xs.foldl (bestF b s hs (endP b s hs)) best = some (0, hs)
  | [], best, _, _, h => h.resolve_left List.not_mem_nil
  | o :: xs, best, hl, hb, h => by
    rw [List.foldl_cons]
    have hl' : ∀ o ∈ xs, o.length = hs.length := fun x hx => hl x (List.mem_cons_of_mem _ hx)
    by_cases e : o = hs
    · subst e
      refine best_own xs _ hl' (.inr (.inr ?_)) (.inr ?_) <;>
      · unfold bestF
        rw [diffN_self]
        rcases hb with rfl | ⟨c, o', rfl, hc⟩ | rfl
        · rw [if_pos ⟨.inl rfl, rfl⟩]
        · rw [if_pos ⟨.inr (lt_zero hc), rfl⟩]
        · split <;> rfl
    · have hc := diffN_pos (hl o List.mem_cons_self).symm (Ne.symm e)
      have h' : hs ∈ xs ∨ best = some (0, hs) := h.imp (fun z => (List.mem_cons.mp z).resolve_left fun q => e q.symm) id
      rcases hb with rfl | ⟨c, o', rfl, hc'⟩ | rfl
      · have h' := h'.resolve_right (by simp)
        refine best_own xs _ hl' ?_ (.inl h')
        unfold bestF
        split
        · exact .inr (.inl ⟨_, _, rfl, hc⟩)
        · exact .inl rfl
      · have h' := h'.resolve_right (by simp; omega)
        refine best_own xs _ hl' ?_ (.inl h')
        unfold bestF
        split
        · exact .inr (.inl ⟨_, _, rfl, hc⟩)
        · exact .inr (.inl ⟨_, _, rfl, hc'⟩)
      · have : bestF b s hs (endP b s hs) (some (0, hs)) o = some (0, hs) := by
          unfold bestF
          rw [if_neg]
          rintro ⟨z | z, _⟩
          · cases z
          · have := not_lt_zero (x := haD o) (y := haD hs) hc
            have z' : ltD (.tup [.int (diffN hs o), haD o]) (.tup [.int (0 : Nat), haD hs]) = true := z
            rw [show ((0 : Nat) : Int) = 0 from rfl] at z'
            rw [this] at z'; cases z'
        rw [this]
        exact best_own xs _ hl' (.inr (.inr rfl)) (.inr rfl)
theorem many_le : ∀ (sw : List (List (Bool × Nat))) (m : Nat), (∀ ex ∈ sw, ex.length ≤ m) → manyL sw ≤ m ^ sw.length
  | [], _, _ => Nat.le_refl 1
  | ex :: sw, m, h => by
    unfold manyL
    rw [List.foldl_cons, mul_fold, Nat.one_mul, List.length_cons, Nat.pow_succ, Nat.mul_comm]
    exact Nat.mul_le_mul (many_le sw m fun e he => h e (List.mem_cons_of_mem _ he)) (h ex List.mem_cons_self)
theorem rests_of {b : Bd} (hb : b.Ok 3 4 3) : Rests b := fun st o => by
  obtain ⟨n, st', l, r, o2, r2⟩ := runs_ok (L := 3) (by decide) (fun ex hx => (hb.ex ex hx).2.1) (fun ex hx => (hb.ex ex hx).2.2) st o
  refine ⟨n, st', Nat.le_trans l ?_, r, o2, r2⟩
  have h4 : uu 3 b.sw.length ≤ uu 3 4 := uu_mono (by decide) hb.s1
  have e4 : uu 3 4 = 120 := rfl
  rw [e4] at h4
  have : b.sw.length * (3 * (1 + uu 3 b.sw.length)) ≤ 4 * (3 * (1 + 120)) := Nat.mul_le_mul hb.s1 (Nat.mul_le_mul_left _ (by omega))
  omega
theorem Bd.Ok.wide {b : Bd} {c s e c' s' e' : Nat} (h : b.Ok c s e) (h1 : c ≤ c') (h2 : s ≤ s') (h3 : e ≤ e') : b.Ok c' s' e' :=
  ⟨h.c0, Nat.le_trans h.c1 h1, h.s0, Nat.le_trans h.s1 h2, fun ex hx => ⟨(h.ex ex hx).1, Nat.le_trans (h.ex ex hx).2.1 h3, (h.ex ex hx).2.2⟩⟩
theorem cut_map {α β : Type} (f : α → β) (xs : List α) (lo hi : Option Int) : cutD (xs.map f) lo hi = (cutD xs lo hi).map f := by
  unfold cutD
  rw [List.length_map, List.map_take, List.map_drop]
theorem sp_hand {ns : List Int} {h : Hh} {X : PX} {Q : PV} (hl : ns.length ≤ 1000) (q : ∀ a c h', HandAt h' a c → Q (.ref a) h') : wpF fn__law_hand [.lst (ns.map .int)] h X Q := by
  simp only [fn__law_hand, b__law_hand_1, wpF, wpB, wpS, wpE, wpA, wpO, wpC, wpI, tg_name, tg_nil, tg_cons, o_add, o_addT, o_addL, o_addS, o_sub, o_mul, o_mulT, o_neB, o_isnotB, o_isB, o_fdiv, o_mod, o_pow, o_eqI, o_neI, o_lt, o_le, o_gt, o_ge, o_is, o_isnot, o_in, o_notin, f_abs, f_str, f_int, f_isi, f_len, f_tuple, f_list, asInt_int, ty_append, ty_extend, ty_update, ty_count, ty_index, Lit.d, truth_bl, truth_non, truth_int, truth_tup, seqD_tup, lenD_tup, tyD_bl, tyD_int, tyD_str, tyD_non, tyD_tup, List.getElem?_cons_zero, List.getElem?_cons_succ, List.set_cons_zero, List.set_cons_succ, Option.some.injEq, exists_eq_left', List.map_cons, List.map_nil, List.cons_append, List.nil_append, List.length_cons, List.length_nil, List.replicate, setAll, wipeD, if_true, if_false, Bool.false_eq_true, sl_frz, cut_map]
  obtain ⟨ms, hms⟩ : ∃ ms, cutD ns none (some 63) = ms := ⟨_, rfl⟩
  have hml : ms.length ≤ 1000 := by
    rw [← hms]
    unfold cutD
    rw [List.length_take, List.length_drop]; omega
  rw [hms]
  refine ⟨trivial, fun p hp => ⟨_, .inl up_same, fun r hr => ?_⟩⟩
  refine lc_map hr (by rw [List.length_map]; omega) (fun x => match x with | .int i => .int (if i < 0 then -i else i) | _ => .non) (fun h' e z hz => by
    obtain rfl : z = (p, ms.map D.int) := by simpa using hz
    exact .inl (e _ _ up_same)) ?_ ?_
  · intro x h2 k hx e hk
    obtain ⟨i, _, rfl⟩ := List.mem_map.mp hx
    try simp only [o_add, o_addT, o_addL, o_addS, o_sub, o_mul, o_mulT, o_neB, o_isnotB, o_isB, o_fdiv, o_mod, o_pow, o_eqI, o_neI, o_lt, o_le, o_gt, o_ge, o_is, o_isnot, o_in, o_notin, f_abs, f_str, f_int, f_isi, f_len, f_tuple, f_list, asInt_int, ty_append, ty_extend, ty_update, ty_count, ty_index, Lit.d, truth_bl, truth_non, truth_int, truth_tup, seqD_tup, lenD_tup, tyD_bl, tyD_int, tyD_str, tyD_non, tyD_tup, List.getElem?_cons_zero, List.getElem?_cons_succ, List.set_cons_zero, List.set_cons_succ, Option.some.injEq, exists_eq_left', List.map_cons, List.map_nil, List.cons_append, List.nil_append, List.length_cons, List.length_nil, List.replicate, setAll, wipeD, if_true, if_false, Bool.false_eq_true]
    exact hk h2 (.refl _)
  · intro h2 e hr2
    have hr3 : h2 r = some (.lst ((ms.map fun i => if i < 0 then -i else i).map D.int)) := by
      rw [hr2, List.map_map, List.map_map]; rfl
    simp only [b__law_hand_2, wpB, wpS, wpE, wpA, wpO, wpC, wpI, tg_name, tg_nil, tg_cons, o_add, o_addT, o_addL, o_addS, o_sub, o_mul, o_mulT, o_neB, o_isnotB, o_isB, o_fdiv, o_mod, o_pow, o_eqI, o_neI, o_lt, o_le, o_gt, o_ge, o_is, o_isnot, o_in, o_notin, f_abs, f_str, f_int, f_isi, f_len, f_tuple, f_list, asInt_int, ty_append, ty_extend, ty_update, ty_count, ty_index, Lit.d, truth_bl, truth_non, truth_int, truth_tup, seqD_tup, lenD_tup, tyD_bl, tyD_int, tyD_str, tyD_non, tyD_tup, List.getElem?_cons_zero, List.getElem?_cons_succ, List.set_cons_zero, List.set_cons_succ, Option.some.injEq, exists_eq_left', List.map_cons, List.map_nil, List.cons_append, List.nil_append, List.length_cons, List.length_nil, List.replicate, setAll, wipeD, if_true, if_false, Bool.false_eq_true, lenD_lst hr3, List.length_map]
    refine ⟨.inl ⟨by decide, by decide⟩, by decide, fun a ha => ?_⟩
    exact q a r _ (handUp (Ne.symm (Ne.symm (ne_fresh hr3 ha))) hr3 (by decide))
theorem o_neL {a c : Nat} {xs : List D} {h : Hh} {Q : PV} (e : h a = some (.lst xs)) (e2 : h c = some (.lst [])) (f : xs.all (pl 19) = true) (q : Q (.bl (!xs.isEmpty)) h) : opC .ne (.ref a) (.ref c) h Q := by
  rw [o_ne]
  have d1 : den h 20 (.ref a) = some (.lst xs) := by
    show (match h a with | some (.lst xs) => (xs.mapM (den h 19)).map D.lst | some (.rol xs) => (xs.mapM (den h 19)).map D.lst | _ => none) = _
    rw [e]
    show (xs.mapM (den h 19)).map D.lst = _
    rw [mapM_id fun y hy => den_flat 19 y (pl_flat 19 y (List.all_eq_true.mp f y hy))]; rfl
  have d2 : den h 20 (.ref c) = some (.lst []) := by
    show (match h c with | some (.lst xs) => (xs.mapM (den h 19)).map D.lst | some (.rol xs) => (xs.mapM (den h 19)).map D.lst | _ => none) = _
    rw [e2]; rfl
  refine ⟨_, _, d1, d2, ?_, rfl, ?_⟩
  · show xs.all (fits 19) = true
    exact List.all_eq_true.mpr fun y hy => fits_flat 19 y (pl_flat 19 y (List.all_eq_true.mp f y hy))
  · have : eqv (.lst xs) (.lst []) = xs.isEmpty := by cases xs <;> rfl
    rw [this]; exact q
theorem pl_key' (k : Nat × List Nat) : pl 19 (keyD k) = true := by
  show ([D.int k.1, haD k.2].all (pl 18)) = true
  simp [pl_int, pl_ha]
theorem pairs_key {b : Bd} {s : Nat} {hs : List Nat} {pp : Bool × Nat} {xs : List (List Nat)} {x : D} (h : x ∈ pairsL b s hs pp xs) : ∃ k, x = keyD k := by
  obtain ⟨o, _, rfl⟩ := List.mem_map.mp h
  exact ⟨_, rfl⟩
end Mp
namespace Mp
/-! ### orders of encoded things -/
theorem ltD_tri : ∀ (n : Nat) (x y : D), pl n x = true → pl n y = true → alk x y = true → ltD x y = false → ltD y x = false → x = y := by
  intro n
  have hstr : ∀ s t : List Nat, ltD (.str s) (.str t) = false → ltD (.str t) (.str s) = false → D.str s = .str t := fun s t h1 h2 => by
    have h1 : decide (s < t) = false := h1
    have h2 : decide (t < s) = false := h2
    have := List.le_antisymm (as := s) (bs := t) (of_decide_eq_false h2) (of_decide_eq_false h1)
    rw [this]
  have hint : ∀ i j : Int, ltD (.int i) (.int j) = false → ltD (.int j) (.int i) = false → D.int i = .int j := fun i j h1 h2 => by
    have h1 : decide (i < j) = false := h1
    have h2 : decide (j < i) = false := h2
    have h1 := of_decide_eq_false h1
    have h2 := of_decide_eq_false h2
    rw [show i = j by omega]
  induction n with
  | zero =>
    intro x y a b c d e
    cases x <;> cases y <;> first | (cases a; done) | (cases b; done) | (cases c; done) | rfl | exact hint _ _ d e | exact hstr _ _ d e
  | succ n ih =>
    intro x y a b c d e
    cases x with
    | tup xs =>
      cases y with
      | tup ys =>
        have key : ∀ xs ys : List D, xs.all (pl n) = true → ys.all (pl n) = true → alkAll xs ys = true → ltAll xs ys = false → ltAll ys xs = false → xs = ys := by
          intro xs
          induction xs with
          | nil =>
            intro ys _ _ _ h1 _
            cases ys with
            | nil => rfl
            | cons _ _ => cases h1
          | cons x xs ihx =>
            intro ys h1 h2 h3 h4 h5
            cases ys with
            | nil => cases h5
            | cons y ys =>
              rw [List.all_cons, Bool.and_eq_true] at h1 h2
              have h3 : (alk x y && alkAll xs ys) = true := h3
              rw [Bool.and_eq_true] at h3
              have h4 : (if eqv x y then ltAll xs ys else ltD x y) = false := h4
              have h5 : (if eqv y x then ltAll ys xs else ltD y x) = false := h5
              by_cases g : x = y
              · subst g
                have e1 := (eqv_iff n x x h1.1 h1.1).mpr rfl
                rw [if_pos e1] at h4 h5
                rw [ihx ys h1.2 h2.2 h3.2 h4 h5]
              · have e1 : ¬ eqv x y = true := fun z => g ((eqv_iff n x y h1.1 h2.1).mp z)
                have e2 : ¬ eqv y x = true := fun z => g ((eqv_iff n y x h2.1 h1.1).mp z).symm
                rw [if_neg e1] at h4
                rw [if_neg e2] at h5
                exact absurd (ih x y h1.1 h2.1 h3.1 h4 h5) g
        rw [key xs ys a b c d e]
      | _ => first | (cases c; done) | (cases b; done)
    | bl _ => cases a
    | lst _ => cases a
    | ref _ => cases a
    | int i => cases y <;> first | (cases c; done) | (cases b; done) | exact hint _ _ d e
    | str i => cases y <;> first | (cases c; done) | (cases b; done) | exact hstr _ _ d e
    | non => cases y <;> first | (cases c; done) | (cases b; done) | rfl
def leE {α : Type} (enc : α → D) (a b : α) : Bool := leD (enc a) (enc b)
structure Enc {α : Type} (enc : α → D) : Prop where
  f : ∀ a, pl 19 (enc a) = true
  a : ∀ a b, alk (enc a) (enc b) = true
  i : ∀ a b, enc a = enc b → a = b
section
variable {α : Type} {enc : α → D}
theorem pl20 {n : Nat} {x : D} (h : pl n x = true) (m : n ≤ 20) : pl 20 x = true := by
  have key : ∀ n m (x : D), n ≤ m → pl n x = true → pl m x = true := by
    intro n
    induction n with
    | zero => intro m x _ e; cases x <;> first | (cases e; done) | (cases m <;> exact e)
    | succ n ih =>
      intro m x hm e
      obtain ⟨k, rfl⟩ : ∃ k, m = k + 1 := ⟨m - 1, by omega⟩
      cases x with
      | tup xs => exact List.all_eq_true.mpr fun y hy => ih k y (by omega) (List.all_eq_true.mp e y hy)
      | _ => first | exact e | cases e
  exact key n 20 x m h
theorem Enc.p (E : Enc enc) (a : α) : pl 20 (enc a) = true := pl20 (E.f a) (by decide)
theorem Enc.total (E : Enc enc) : PySem.W.TotalLe (leE enc) := by
  have e : leE enc = PySem.W.dataLe false fun a => toP (enc a) := by
    funext a b
    rw [PySem.W.dataLe_eq]
    show (!ltD (enc b) (enc a)) = !PySem.W.dataLt (toP (enc b)) (toP (enc a))
    rw [ltD_toP 20 _ _ (fits_flat 20 _ (pl_flat 20 _ (E.p b))) (fits_flat 20 _ (pl_flat 20 _ (E.p a))) (E.a b a)]
  rw [e]
  exact PySem.W.sortLe_total _ _ _
theorem Enc.anti (E : Enc enc) (a b : α) (h1 : leE enc a b = true) (h2 : leE enc b a = true) : a = b := by
  have h1 : (!ltD (enc b) (enc a)) = true := h1
  have h2 : (!ltD (enc a) (enc b)) = true := h2
  rw [Bool.not_eq_true'] at h1 h2
  exact E.i _ _ (ltD_tri 20 _ _ (E.p a) (E.p b) (E.a a b) h2 h1)
theorem Enc.perm (E : Enc enc) {xs ys : List α} (p : xs.Perm ys) : xs.mergeSort (leE enc) = ys.mergeSort (leE enc) := by
  refine PySem.W.sort_unique E.total (PySem.W.sort_pairwise E.total xs) fun c => ?_
  rw [PySem.W.sort_stable E.total]
  have key : ∀ l : List α, l.filter (PySem.W.sameRank (leE enc) c) = List.replicate (l.filter (PySem.W.sameRank (leE enc) c)).length c := fun l => List.eq_replicate_iff.mpr ⟨rfl, fun x hx => by
    have h := (List.mem_filter.mp hx).2
    unfold PySem.W.sameRank at h
    rw [Bool.and_eq_true] at h
    exact (E.anti c x h.1 h.2).symm⟩
  rw [key xs, key ys, (p.filter _).length_eq]
theorem sort_enc (xs : List α) : (xs.map enc).mergeSort leD = (xs.mergeSort (leE enc)).map enc := (PySem.W.sort_maps enc (fun _ _ _ _ => rfl)).symm
theorem Enc.pls (E : Enc enc) (xs : List α) : (xs.map enc).all (pl 19) = true := List.all_eq_true.mpr fun x hx => by
  obtain ⟨a, _, rfl⟩ := List.mem_map.mp hx
  exact E.f a
theorem Enc.pl20s (E : Enc enc) (xs : List α) : (xs.map enc).all (pl 20) = true := List.all_eq_true.mpr fun x hx => by
  obtain ⟨a, _, rfl⟩ := List.mem_map.mp hx
  exact E.p a
/-- sorted of a list -/
theorem f_sortE (E : Enc enc) {xs : List α} {a : Nat} {h : Hh} {Q : PV} (ht : ∀ a ∈ xs, tupN (enc a) = true) (e : h a = some (.lst (xs.map enc)) ∨ ∃ kvs, h a = some (.dcT kvs) ∧ xs.map enc = kvs.map (·.1)) (hl : xs.length ≤ 1000000) (q : ∀ p, h p = none → Q (.ref p) (up h p (.lst ((xs.mergeSort (leE enc)).map enc)))) : opF .sorted [.ref a] h Q := by
  rw [f_sorted]
  refine ⟨_, e, by rw [List.length_map]; exact szl2 hl, ?_, ?_, .inl ?_, by rw [sort_enc]; exact q⟩
  · exact List.all_eq_true.mpr fun x hx => pl_flat 20 x (List.all_eq_true.mp (E.pl20s xs) x hx)
  · intro x hx y hy
    obtain ⟨a, _, rfl⟩ := List.mem_map.mp hx
    obtain ⟨b, _, rfl⟩ := List.mem_map.mp hy
    exact E.a a b
  · refine List.all_eq_true.mpr fun x hx => ?_
    obtain ⟨a, hm, rfl⟩ := List.mem_map.mp hx
    exact ht a hm
open Classical in
theorem Enc.mem (E : Enc enc) {a : α} {xs : List α} : decide (enc a ∈ xs.map enc) = decide (a ∈ xs) := by
  rw [decide_eq_decide, List.mem_map]
  exact ⟨fun ⟨b, hb, e⟩ => E.i _ _ e ▸ hb, fun h => ⟨a, h, rfl⟩⟩
open Classical in
theorem Enc.dec (E : Enc enc) {a b : α} : decide (enc a = enc b) = decide (a = b) := by
  rw [decide_eq_decide]
  exact ⟨E.i a b, fun e => by rw [e]⟩
open Classical in
theorem Enc.eqv (E : Enc enc) (a b : α) : Mp.eqv (enc a) (enc b) = decide (a = b) := by rw [eqv_dec (E.p a) (E.p b), E.dec]
end
/-! ### stands -/
def stD (st : Sta) : D := .tup [plD st.1, haD st.2]
theorem haD_inj {as bs : List Nat} (h : haD as = haD bs) : as = bs := by
  have h := D.tup.inj h
  induction as generalizing bs with
  | nil =>
    cases bs with
    | nil => rfl
    | cons _ _ => simp at h
  | cons a as ih =>
    cases bs with
    | nil => simp at h
    | cons b bs =>
      rw [List.map_cons, List.map_cons, List.cons.injEq] at h
      have h1 := D.int.inj h.1
      have e2 := ih (by unfold haD; rw [h.2]) h.2
      rw [show a = b by omega, e2]
theorem stD_inj {a b : Sta} (h : stD a = stD b) : a = b := by
  have h := D.tup.inj h
  rw [List.cons.injEq, List.cons.injEq] at h
  have e1 := plD_inj h.1
  have e2 := haD_inj h.2.1
  obtain ⟨a1, a2⟩ := a
  obtain ⟨b1, b2⟩ := b
  simp only at e1 e2
  rw [e1, e2]
theorem pl_pl (n : Nat) (p : Bool × Nat) : pl (n + 1) (plD p) = true := by
  unfold plD
  show ([D.str (if p.1 then sCup else sSw), D.int p.2].all (pl n)) = true
  cases p.1 <;> cases n <;> rfl
theorem enc_st : Enc stD where
  f := fun a => by
    show ([plD a.1, haD a.2].all (pl 18)) = true
    simp [pl_pl 17, pl_ha 17]
  a := fun a b => by
    show (alk (plD a.1) (plD b.1) && (alk (haD a.2) (haD b.2) && alkAll [] [])) = true
    have e1 : alk (plD a.1) (plD b.1) = true := rfl
    have e2 : alk (haD a.2) (haD b.2) = true := alk_ha _ _
    rw [e1, e2]; rfl
  i := fun a b h => stD_inj h
theorem enc_ha : Enc haD where
  f := fun a => pl_ha 18 a
  a := fun a b => alk_ha a b
  i := fun a b h => haD_inj h
theorem enc_pl : Enc plD where
  f := fun a => pl_pl 18 a
  a := fun a b => rfl
  i := fun a b h => plD_inj h
theorem keyT_ints : ∀ (n : Nat) (hs : List Nat), (hs.map fun n : Nat => D.int n).all (keyT n) = true := fun n hs => List.all_eq_true.mpr fun x hx => by
  obtain ⟨i, _, rfl⟩ := List.mem_map.mp hx
  cases n <;> rfl
theorem key_ha (hs : List Nat) : isKeyT (haD hs) = true := keyT_ints 7 hs
theorem key_pl (p : Bool × Nat) : isKeyT (plD p) = true := by
  show ([D.str (if p.1 then sCup else sSw), D.int p.2].all (keyT 7)) = true
  rfl
theorem key_st (st : Sta) : isKeyT (stD st) = true := by
  show ([plD st.1, haD st.2].all (keyT 7)) = true
  have e1 : keyT 7 (plD st.1) = true := by
    unfold plD
    show ([D.str (if st.1.1 then sCup else sSw), D.int st.1.2].all (keyT 6)) = true
    rfl
  have e2 : keyT 7 (haD st.2) = true := keyT_ints 6 st.2
  simp [e1, e2]
end Mp
namespace Mp
/-! ### where a drop ends -/
open Classical in
noncomputable def endS (b : Bd) (s : Nat) (hs : List Nat) : Sta := if h : ∃ n st', Runs b ((false, s), hs) n st' then Classical.choose (Classical.choose_spec h) else ((true, 0), hs)
theorem endS_of {b : Bd} {s n : Nat} {hs : List Nat} {st' : Sta} (r : Runs b ((false, s), hs) n st') : endS b s hs = st' := by
  unfold endS
  have h : ∃ n st', Runs b ((false, s), hs) n st' := ⟨n, st', r⟩
  rw [dif_pos h]
  have := Classical.choose_spec (Classical.choose_spec h)
  exact (this.det r).2
theorem endS_runs {b : Bd} (hR : Rests b) {s : Nat} {hs : List Nat} (h : s < b.sw.length) (o : haOk b hs) : ∃ n, n ≤ 200000 ∧ Runs b ((false, s), hs) n (endS b s hs) ∧ stOk b (endS b s hs) ∧ isRest b (endS b s hs).1 := by
  obtain ⟨n, st', n1, r1, r2, r3⟩ := hR ((false, s), hs) ⟨h, o⟩
  rw [endS_of r1]
  exact ⟨n, n1, r1, r2, r3⟩
/-- an exit that leads to rest is used within so many turns -/
theorem run_turns {b : Bd} {t k0 : Nat} {ex : List (Bool × Nat)} {p : Bool × Nat} (hx : b.sw[t]? = some ex) (hp : ex[k0]? = some p) (hr : isRest b p) (hpl : ∀ ex ∈ b.sw, ∀ p ∈ ex, plOk b.cups b.sw.length p) : ∀ (n : Nat) (st st' : Sta), Runs b st n st' → stOk b st → st'.1 ≠ p →
    ∀ k, st.2[t]? = some k → ∃ k', st'.2[t]? = some k' ∧ turnsTo ex.length k0 k' ≤ turnsTo ex.length k0 k ∧ (st.1 = (false, t) → ¬ isRest b st.1 → turnsTo ex.length k0 k' < turnsTo ex.length k0 k) := by
  have hk0 : k0 < ex.length := (List.getElem?_eq_some_iff.mp hp).1
  intro n
  induction n with
  | zero =>
    intro st st' r o hne k hk
    cases r with
    | stop z => exact ⟨k, hk, Nat.le_refl _, fun _ h => absurd z h⟩
  | succ n ih =>
    intro st st' r o hne k hk
    cases r with
    | step z r2 =>
      obtain ⟨h1', h2', ex', kk, pl, x1, x2, x3, x4, x5⟩ := o.get z
      have o2 := o.step hpl z
      rw [x5] at r2 o2
      by_cases e : st.1.2 = t
      · subst e
        rw [hx] at x1; cases x1
        rw [hk] at x2; cases x2
        have hl : st.1.2 < st.2.length := (List.getElem?_eq_some_iff.mp hk).1
        have hkk : k ≠ k0 := by
          rintro rfl
          rw [hp] at x4; cases x4
          cases r2 with
          | stop _ => exact hne rfl
          | step z2 _ => exact z2 hr
        obtain ⟨k', g1, g2, _⟩ := ih _ st' r2 o2 hne (nextH ex.length k) (List.getElem?_set_self hl)
        have ht := turns_next hk0 x3 hkk
        exact ⟨k', g1, by omega, fun _ _ => by omega⟩
      · obtain ⟨k', g1, g2, _⟩ := ih _ st' r2 o2 hne k (by show (st.2.set st.1.2 _)[t]? = _; rw [List.getElem?_set_ne e]; exact hk)
        exact ⟨k', g1, g2, fun a _ => absurd (by rw [a]) e⟩
/-- balls dropped at one switch -/
noncomputable def dropN (b : Bd) (t : Nat) (o : List Nat) : Nat → List Nat
  | 0 => o
  | n + 1 => (endS b t (dropN b t o n)).2
theorem dropN_ok {b : Bd} (hR : Rests b) {t : Nat} {o : List Nat} (ht : t < b.sw.length) (ho : haOk b o) : ∀ n, haOk b (dropN b t o n)
  | 0 => ho
  | n + 1 => by
    obtain ⟨_, _, _, h, _⟩ := endS_runs hR ht (dropN_ok hR ht ho n)
    exact h.2
theorem hit3 {b : Bd} (hR : Rests b) (hpl : ∀ ex ∈ b.sw, ∀ p ∈ ex, plOk b.cups b.sw.length p) {t k0 : Nat} {ex : List (Bool × Nat)} {p : Bool × Nat} (hx : b.sw[t]? = some ex) (hp : ex[k0]? = some p) (hr : isRest b p) (ht : Reach b t) (h3 : ex.length ≤ 3) {o : List Nat} (ho : haOk b o) : ∃ i, i < 3 ∧ (endS b t (dropN b t o i)).1 = p := by
  have hk0 : k0 < ex.length := (List.getElem?_eq_some_iff.mp hp).1
  have hlt := ht.lt
  have nr : ¬ isRest b (false, t) := fun z => z.elim (fun z => by cases z) fun z => z ht
  have step : ∀ i, (endS b t (dropN b t o i)).1 = p ∨ ∃ k k', (dropN b t o i)[t]? = some k ∧ (dropN b t o (i + 1))[t]? = some k' ∧ turnsTo ex.length k0 k' < turnsTo ex.length k0 k := by
    intro i
    have oi := dropN_ok hR hlt ho i
    obtain ⟨n, _, r, _, _⟩ := endS_runs hR hlt oi
    by_cases e : (endS b t (dropN b t o i)).1 = p
    · exact .inl e
    · obtain ⟨k, hk⟩ : ∃ k, (dropN b t o i)[t]? = some k := ⟨_, List.getElem?_eq_getElem (by rw [oi.1]; exact hlt)⟩
      obtain ⟨k', g1, _, g3⟩ := run_turns hx hp hr hpl n _ _ r ⟨hlt, oi⟩ e k hk
      exact .inr ⟨k, k', hk, g1, g3 rfl nr⟩
  rcases step 0 with h | ⟨a0, a1, e0, e1, l1⟩
  · exact ⟨0, by decide, h⟩
  rcases step 1 with h | ⟨b0, b1, f0, f1, l2⟩
  · exact ⟨1, by decide, h⟩
  rcases step 2 with h | ⟨c0, c1, g0, g1, l3⟩
  · exact ⟨2, by decide, h⟩
  rw [e1] at f0; cases f0
  rw [f1] at g0; cases g0
  have o0 := dropN_ok hR hlt ho 0
  have := turns_le (len := ex.length) (e := k0) (k := a0) hk0
  omega
/-- the end of a run is an exit of a switch that it can leave, or the start -/
theorem run_last {b : Bd} (hpl : ∀ ex ∈ b.sw, ∀ p ∈ ex, plOk b.cups b.sw.length p) : ∀ (n : Nat) (st st' : Sta), Runs b st n st' → stOk b st → st'.1 = st.1 ∨ ∃ (t k : Nat) (ex : List (Bool × Nat)), b.sw[t]? = some ex ∧ ex[k]? = some st'.1 ∧ Reach b t := by
  intro n
  induction n with
  | zero => intro st st' r o; cases r with | stop _ => exact .inl rfl
  | succ n ih =>
    intro st st' r o
    cases r with
    | step z r2 =>
      obtain ⟨h1', h2', ex', kk, pl, x1, x2, x3, x4, x5⟩ := o.get z
      have o2 := o.step hpl z
      rcases ih _ _ r2 o2 with h | h
      · rw [x5] at h
        exact .inr ⟨_, kk, ex', x1, by rw [h]; exact x4, h2'⟩
      · exact .inr h
end Mp
namespace Mp
/-! ### going through all hands -/
abbrev Ent := List Nat × List Nat
abbrev BS := List Ent × List ((Bool × Nat) × List Nat)
noncomputable def follow (b : Bd) (o : List Nat) (r : List Nat) : List Nat := r.foldl (fun o s => (endS b s o).2) o
theorem follow_snoc (b : Bd) (o r : List Nat) (s : Nat) : follow b o (r ++ [s]) = (endS b s (follow b o r)).2 := by
  unfold follow
  rw [List.foldl_append]; rfl
noncomputable def proc1 (b : Bd) (here : Ent) (S : BS) (s : Nat) : BS :=
  (if (endS b s here.1).2 ∈ S.1.map (·.1) then S.1 else S.1 ++ [((endS b s here.1).2, here.2 ++ [s])],
   if (endS b s here.1).1 ∈ S.2.map (·.1) then S.2 else S.2 ++ [((endS b s here.1).1, here.2 ++ [s])])
noncomputable def procJ (b : Bd) (here : Ent) (S : BS) (j : Nat) : BS := (List.range j).foldl (proc1 b here) S
theorem procJ_succ (b : Bd) (here : Ent) (S : BS) (j : Nat) : procJ b here S (j + 1) = proc1 b here (procJ b here S j) j := by
  unfold procJ
  rw [List.range_succ, List.foldl_append]; rfl
noncomputable def seqO (b : Bd) (o0 : List Nat) : Nat → BS
  | 0 => ([(o0, [])], [])
  | i + 1 => match (seqO b o0 i).1[i]? with
    | some here => procJ b here (seqO b o0 i) b.sw.length
    | none => seqO b o0 i
def pairsO (n : Nat) (L : List Ent) : List (Ent × Nat) := L.flatMap fun e => (List.range n).map fun s => (e, s)
noncomputable def findP (b : Bd) (p : Bool × Nat) (L : List (Ent × Nat)) : Option (List Nat) := (L.find? fun q => decide ((endS b q.2 q.1.1).1 = p)).map fun q => q.1.2 ++ [q.2]
structure BJ (b : Bd) (o0 : List Nat) (i j : Nat) (here : Ent) (S : BS) : Prop where
  nd : (S.1.map (·.1)).Nodup
  ne : (S.2.map (·.1)).Nodup
  ok : ∀ e ∈ S.1, haOk b e.1 ∧ follow b o0 e.2 = e.1 ∧ ∀ s ∈ e.2, s < b.sw.length
  en : ∀ q ∈ S.2, ∃ r s, q.2 = r ++ [s] ∧ s < b.sw.length ∧ (∀ s ∈ r, s < b.sw.length) ∧ haOk b (follow b o0 r) ∧ (endS b s (follow b o0 r)).1 = q.1
  st : S.1[0]? = some (o0, [])
  hi : S.1[i]? = some here
  ln : ∀ (m m' : Nat) (e e' : Ent), S.1[m]? = some e → S.1[m']? = some e' → m ≤ m' → e.2.length ≤ e'.2.length
  lb : ∀ e ∈ S.1, e.2.length ≤ here.2.length + 1
  le : ∀ q ∈ S.2, q.2.length ≤ here.2.length + 1
  cl : ∀ (m : Nat) (e : Ent) (s : Nat), (m < i ∨ (m = i ∧ s < j)) → s < b.sw.length → S.1[m]? = some e → (∃ e' ∈ S.1, e'.1 = (endS b s e.1).2 ∧ e'.2.length ≤ e.2.length + 1) ∧ ∃ q ∈ S.2, q.1 = (endS b s e.1).1 ∧ q.2.length ≤ e.2.length + 1
  fe : ∀ p, S.2.lookup p = findP b p (pairsO b.sw.length (S.1.take i) ++ (List.range j).map fun s => (here, s))
structure BI (b : Bd) (o0 : List Nat) (i : Nat) (S : BS) : Prop where
  nd : (S.1.map (·.1)).Nodup
  ne : (S.2.map (·.1)).Nodup
  ok : ∀ e ∈ S.1, haOk b e.1 ∧ follow b o0 e.2 = e.1 ∧ ∀ s ∈ e.2, s < b.sw.length
  en : ∀ q ∈ S.2, ∃ r s, q.2 = r ++ [s] ∧ s < b.sw.length ∧ (∀ s ∈ r, s < b.sw.length) ∧ haOk b (follow b o0 r) ∧ (endS b s (follow b o0 r)).1 = q.1
  st : S.1[0]? = some (o0, [])
  ln : ∀ (m m' : Nat) (e e' : Ent), S.1[m]? = some e → S.1[m']? = some e' → m ≤ m' → e.2.length ≤ e'.2.length
  lb : ∀ here, S.1[i]? = some here → (∀ e ∈ S.1, e.2.length ≤ here.2.length + 1) ∧ ∀ q ∈ S.2, q.2.length ≤ here.2.length + 1
  cl : ∀ (m : Nat) (e : Ent) (s : Nat), m < i → s < b.sw.length → S.1[m]? = some e → (∃ e' ∈ S.1, e'.1 = (endS b s e.1).2 ∧ e'.2.length ≤ e.2.length + 1) ∧ ∃ q ∈ S.2, q.1 = (endS b s e.1).1 ∧ q.2.length ≤ e.2.length + 1
  fe : ∀ p, S.2.lookup p = findP b p (pairsO b.sw.length (S.1.take i))
section
variable {b : Bd} {o0 : List Nat} {i j : Nat} {here : Ent} {S : BS}
theorem BI.start (h : BI b o0 i S) (e : S.1[i]? = some here) : BJ b o0 i 0 here S where
  nd := h.nd
  ne := h.ne
  ok := h.ok
  en := h.en
  st := h.st
  hi := e
  ln := h.ln
  lb := (h.lb here e).1
  le := (h.lb here e).2
  cl := fun m e s c hs q => h.cl m e s (c.resolve_right fun z => absurd z.2 (Nat.not_lt_zero _)) hs q
  fe := fun p => by rw [h.fe]; simp
theorem BJ.done (h : BJ b o0 i b.sw.length here S) : BI b o0 (i + 1) S where
  nd := h.nd
  ne := h.ne
  ok := h.ok
  en := h.en
  st := h.st
  ln := h.ln
  lb := fun here' e' => by
    have := h.ln i (i + 1) here here' h.hi e' (by omega)
    exact ⟨fun e he => Nat.le_trans (h.lb e he) (by omega), fun q hq => Nat.le_trans (h.le q hq) (by omega)⟩
  cl := fun m e s c hs q => h.cl m e s (by
    by_cases z : m < i
    · exact .inl z
    · exact .inr ⟨by omega, hs⟩) hs q
  fe := fun p => by
    rw [h.fe]
    congr 1
    unfold pairsO
    rw [List.take_add_one, h.hi]
    simp
theorem get_app {α : Type} {xs ys : List α} {m : Nat} {x : α} (h : xs[m]? = some x) : (xs ++ ys)[m]? = some x := by
  rw [List.getElem?_append_left (List.getElem?_eq_some_iff.mp h).1]; exact h
theorem find_app {p : Bool × Nat} (L M : List (Ent × Nat)) : findP b p (L ++ M) = (findP b p L).or (findP b p M) := by
  unfold findP
  rw [List.find?_append]
  cases L.find? fun q => decide ((endS b q.2 q.1.1).1 = p) <;> rfl
theorem lookup_snoc {α β : Type} [BEq α] [LawfulBEq α] (xs : List (α × β)) (k : α) (v : β) (p : α) : (xs ++ [(k, v)]).lookup p = (xs.lookup p).or (if (p == k) = true then some v else none) := by
  induction xs with
  | nil =>
    rw [List.nil_append, List.lookup_cons]
    cases p == k <;> rfl
  | cons x xs ih =>
    rw [List.cons_append, List.lookup_cons, List.lookup_cons, ih]
    cases p == x.1 <;> rfl
theorem lookup_mem {α β : Type} [BEq α] [LawfulBEq α] {xs : List (α × β)} {p : α} : (xs.lookup p).isSome = true ↔ p ∈ xs.map (·.1) := by
  induction xs with
  | nil => simp
  | cons x xs ih =>
    rw [List.lookup_cons, List.map_cons, List.mem_cons]
    cases q : p == x.1 with
    | true => simp [eq_of_beq q]
    | false =>
      have e : ¬ p = x.1 := fun z => by rw [z] at q; simp at q
      simp only [ih, e, false_or]
theorem BJ.step (hR : Rests b) (h : BJ b o0 i j here S) (hj : j < b.sw.length) : BJ b o0 i (j + 1) here (proc1 b here S j) := by
  have hm := List.mem_of_getElem? h.hi
  obtain ⟨ho, hf, hrow⟩ := h.ok here hm
  obtain ⟨_, _, _, oke, _⟩ := endS_runs hR hj ho
  have hpre : ∃ t, (proc1 b here S j).1 = S.1 ++ t ∧ (t = [] ∧ (endS b j here.1).2 ∈ S.1.map (·.1) ∨ t = [((endS b j here.1).2, here.2 ++ [j])] ∧ (endS b j here.1).2 ∉ S.1.map (·.1)) := by
    unfold proc1
    dsimp only
    split
    · rename_i z; exact ⟨[], (List.append_nil _).symm, .inl ⟨rfl, z⟩⟩
    · rename_i z; exact ⟨_, rfl, .inr ⟨rfl, z⟩⟩
  have hprf : ∃ t, (proc1 b here S j).2 = S.2 ++ t ∧ (t = [] ∧ (endS b j here.1).1 ∈ S.2.map (·.1) ∨ t = [((endS b j here.1).1, here.2 ++ [j])] ∧ (endS b j here.1).1 ∉ S.2.map (·.1)) := by
    unfold proc1
    dsimp only
    split
    · rename_i z; exact ⟨[], (List.append_nil _).symm, .inl ⟨rfl, z⟩⟩
    · rename_i z; exact ⟨_, rfl, .inr ⟨rfl, z⟩⟩
  obtain ⟨t, e1, c1⟩ := hpre
  obtain ⟨u, e2, c2⟩ := hprf
  have newO : ∀ e ∈ t, e = ((endS b j here.1).2, here.2 ++ [j]) := fun e he => by
    rcases c1 with ⟨rfl, _⟩ | ⟨rfl, _⟩
    · exact absurd he List.not_mem_nil
    · exact List.mem_singleton.mp he
  have newE : ∀ q ∈ u, q = ((endS b j here.1).1, here.2 ++ [j]) := fun e he => by
    rcases c2 with ⟨rfl, _⟩ | ⟨rfl, _⟩
    · exact absurd he List.not_mem_nil
    · exact List.mem_singleton.mp he
  have hil := (List.getElem?_eq_some_iff.mp h.hi).1
  refine ⟨?_, ?_, ?_, ?_, ?_, ?_, ?_, ?_, ?_, ?_, ?_⟩
  · rw [e1]
    rcases c1 with ⟨rfl, _⟩ | ⟨rfl, z⟩
    · rw [List.append_nil]; exact h.nd
    · rw [List.map_append]
      refine List.nodup_append.mpr ⟨h.nd, by simp, fun a ha c hc y => ?_⟩
      simp only [List.map_cons, List.map_nil, List.mem_singleton] at hc
      subst hc; subst y
      exact z ha
  · rw [e2]
    rcases c2 with ⟨rfl, _⟩ | ⟨rfl, z⟩
    · rw [List.append_nil]; exact h.ne
    · rw [List.map_append]
      refine List.nodup_append.mpr ⟨h.ne, by simp, fun a ha c hc y => ?_⟩
      simp only [List.map_cons, List.map_nil, List.mem_singleton] at hc
      subst hc; subst y
      exact z ha
  · rw [e1]
    intro e he
    rcases List.mem_append.mp he with he | he
    · exact h.ok e he
    · rw [newO e he]
      refine ⟨oke.2, by rw [follow_snoc, hf], fun s hs => ?_⟩
      rcases List.mem_append.mp hs with hs | hs
      · exact hrow s hs
      · rw [List.mem_singleton.mp hs]; exact hj
  · rw [e2]
    intro q hq
    rcases List.mem_append.mp hq with hq | hq
    · exact h.en q hq
    · rw [newE q hq]
      exact ⟨here.2, j, rfl, hj, hrow, by rw [hf]; exact ho, by rw [hf]⟩
  · rw [e1]; exact get_app h.st
  · rw [e1]; exact get_app h.hi
  · rw [e1]
    intro m m' e e' hm1 hm2 hle
    by_cases z' : m' < S.1.length
    · have z : m < S.1.length := by omega
      rw [List.getElem?_append_left z] at hm1
      rw [List.getElem?_append_left z'] at hm2
      exact h.ln m m' e e' hm1 hm2 hle
    · rw [List.getElem?_append_right (by omega)] at hm2
      rw [newO e' (List.mem_of_getElem? hm2)]
      show e.2.length ≤ (here.2 ++ [j]).length
      rw [List.length_append]
      by_cases z : m < S.1.length
      · rw [List.getElem?_append_left z] at hm1
        exact h.lb e (List.mem_of_getElem? hm1)
      · rw [List.getElem?_append_right (by omega)] at hm1
        rw [newO e (List.mem_of_getElem? hm1)]
        simp
  · rw [e1]
    intro e he
    rcases List.mem_append.mp he with he | he
    · exact h.lb e he
    · rw [newO e he]; simp
  · rw [e2]
    intro q hq
    rcases List.mem_append.mp hq with hq | hq
    · exact h.le q hq
    · rw [newE q hq]; simp
  · rw [e1, e2]
    intro m e s c hs hm1
    have hm1' : S.1[m]? = some e := by
      have : m < S.1.length := by rcases c with c | c <;> omega
      rw [List.getElem?_append_left this] at hm1; exact hm1
    by_cases c' : m < i ∨ (m = i ∧ s < j)
    · obtain ⟨⟨e', g1, g2, g3⟩, ⟨q, k1, k2, k3⟩⟩ := h.cl m e s c' hs hm1'
      exact ⟨⟨e', List.mem_append_left _ g1, g2, g3⟩, ⟨q, List.mem_append_left _ k1, k2, k3⟩⟩
    · have em : m = i := by rcases c with c | c <;> omega
      have es : s = j := by rcases c with c | c <;> omega
      subst em; subst es
      rw [h.hi] at hm1'; cases hm1'
      refine ⟨?_, ?_⟩
      · rcases c1 with ⟨rfl, z⟩ | ⟨rfl, z⟩
        · obtain ⟨e', g1, g2⟩ := List.mem_map.mp z
          exact ⟨e', List.mem_append_left _ g1, g2, h.lb e' g1⟩
        · exact ⟨_, List.mem_append_right _ (List.mem_singleton.mpr rfl), rfl, by simp⟩
      · rcases c2 with ⟨rfl, z⟩ | ⟨rfl, z⟩
        · obtain ⟨e', g1, g2⟩ := List.mem_map.mp z
          exact ⟨e', List.mem_append_left _ g1, g2, h.le e' g1⟩
        · exact ⟨_, List.mem_append_right _ (List.mem_singleton.mpr rfl), rfl, by simp⟩
  · intro p
    rw [e1, e2]
    have et : (S.1 ++ t).take i = S.1.take i := List.take_append_of_le_length (by omega)
    rw [et, List.range_succ, List.map_append, ← List.append_assoc, find_app, ← h.fe p]
    have f1 : findP b p ([j].map fun s => (here, s)) = if (endS b j here.1).1 = p then some (here.2 ++ [j]) else none := by
      unfold findP
      by_cases e : (endS b j here.1).1 = p <;> simp [e]
    rw [f1]
    rcases c2 with ⟨rfl, z⟩ | ⟨rfl, z⟩
    · rw [List.append_nil]
      by_cases e : (endS b j here.1).1 = p
      · subst e
        have := lookup_mem.mpr z
        cases q : S.2.lookup (endS b j here.1).1 with
        | none => rw [q] at this; cases this
        | some r => rfl
      · rw [if_neg e, Option.or_none]
    · rw [lookup_snoc]
      congr 1
      by_cases e : (endS b j here.1).1 = p
      · rw [if_pos e, if_pos (by rw [e]; exact BEq.rfl)]
      · rw [if_neg e, if_neg (fun z => e (eq_of_beq z).symm)]
theorem BJ.all (hR : Rests b) (h : BI b o0 i S) (e : S.1[i]? = some here) : ∀ j, j ≤ b.sw.length → BJ b o0 i j here (procJ b here S j)
  | 0, _ => h.start e
  | j + 1, hj => by
    rw [procJ_succ]
    exact (BJ.all hR h e j (by omega)).step hR (by omega)
theorem seq_inv (hR : Rests b) (h0 : haOk b o0) : ∀ i, BI b o0 i (seqO b o0 i)
  | 0 => by
    refine ⟨by show [o0].Nodup; simp, by show ([] : List (Bool × Nat)).Nodup; simp, fun e he => ?_, fun q hq => absurd hq List.not_mem_nil, rfl, fun m m' e e' h1 h2 _ => ?_, fun here eh => ⟨fun e he => ?_, fun q hq => absurd hq List.not_mem_nil⟩, fun m e s c => absurd c (Nat.not_lt_zero _), fun p => rfl⟩
    · rw [List.mem_singleton.mp he]
      exact ⟨h0, rfl, fun s hs => absurd hs List.not_mem_nil⟩
    · have h1' : e = (o0, []) := List.mem_singleton.mp (List.mem_of_getElem? (l := [(o0, ([] : List Nat))]) h1)
      rw [h1']; exact Nat.zero_le _
    · rw [List.mem_singleton.mp he]; exact Nat.zero_le _
  | i + 1 => by
    have ih := seq_inv hR h0 i
    show BI b o0 (i + 1) (match (seqO b o0 i).1[i]? with | some here => procJ b here (seqO b o0 i) b.sw.length | none => seqO b o0 i)
    cases q : (seqO b o0 i).1[i]? with
    | some here => exact (BJ.all hR ih q b.sw.length (Nat.le_refl _)).done
    | none =>
      show BI b o0 (i + 1) (seqO b o0 i)
      have hl : (seqO b o0 i).1.length ≤ i := List.getElem?_eq_none_iff.mp q
      refine ⟨ih.nd, ih.ne, ih.ok, ih.en, ih.st, ih.ln, fun here eh => ?_, fun m e s c hs hm => ?_, fun p => ?_⟩
      · have := (List.getElem?_eq_some_iff.mp eh).1; omega
      · have := (List.getElem?_eq_some_iff.mp hm).1
        exact ih.cl m e s (by omega) hs hm
      · rw [ih.fe, List.take_of_length_le hl, List.take_of_length_le (by omega)]
end
end Mp
namespace Mp
theorem nodup_sub2 {α : Type} [DecidableEq α] : ∀ {xs ys : List α}, xs.Nodup → (∀ x ∈ xs, x ∈ ys) → xs.length ≤ ys.length
  | [], _, _, _ => Nat.zero_le _
  | x :: xs, ys, n, h => by
    rw [List.nodup_cons] at n
    have hx := h x List.mem_cons_self
    have ih := nodup_sub2 (xs := xs) (ys := ys.erase x) n.2 fun y hy => (List.mem_erase_of_ne (fun e : y = x => n.1 (by rw [← e]; exact hy))).mpr (h y (List.mem_cons_of_mem _ hy))
    rw [List.length_erase_of_mem hx] at ih
    have : 0 < ys.length := List.length_pos_of_mem hx
    rw [List.length_cons]; omega
/-! ### dicts of encoded keys -/
section
variable {α : Type} {enc : α → D} [DecidableEq α]
def encKv {α : Type} (enc : α → D) (xs : List (α × D)) : List (D × D) := xs.map fun q => (enc q.1, q.2)
theorem enc_any (E : Enc enc) (xs : List (α × D)) (k : α) : ((encKv enc xs).any fun p => eqv p.1 (enc k)) = decide (k ∈ xs.map (·.1)) := by
  unfold encKv
  rw [List.any_map]
  induction xs with
  | nil => simp
  | cons x xs ih =>
    rw [List.any_cons, ih]
    show (eqv (enc x.1) (enc k) || _) = _
    rw [eqv_dec (E.p _) (E.p _), E.dec, List.map_cons]
    by_cases e : x.1 = k
    · simp [e]
    · simp [e, Ne.symm e]
theorem enc_look {α : Type} {enc : α → D} [BEq α] [LawfulBEq α] (E : Enc enc) (xs : List (α × D)) (k : α) : look (encKv enc xs) (enc k) = xs.lookup k := by
  unfold encKv look
  induction xs with
  | nil => rfl
  | cons x xs ih =>
    rw [List.map_cons, List.find?_cons, List.lookup_cons]
    show (match eqv (enc x.1) (enc k) with | true => _ | false => _ : Option (D × D)).map _ = _
    rw [eqv_dec (E.p _) (E.p _), E.dec]
    by_cases e : x.1 = k
    · have : (k == x.1) = true := by rw [e]; exact BEq.rfl
      simp [e, this]
    · have : (k == x.1) = false := by
        cases q : k == x.1 with
        | false => rfl
        | true => exact absurd (eq_of_beq q).symm e
      simp only [e, decide_false, this]
      exact ih
theorem enc_stor (E : Enc enc) (xs : List (α × D)) (k : α) (v : D) (h : k ∉ xs.map (·.1)) : stor (encKv enc xs) (enc k) v = encKv enc (xs ++ [(k, v)]) := by
  unfold stor
  rw [enc_any E, decide_eq_false h]
  simp [encKv]
theorem enc_keys (xs : List (α × D)) : (encKv enc xs).map (·.1) = (xs.map (·.1)).map enc := by
  unfold encKv
  rw [List.map_map, List.map_map]; rfl
end
def valD {α : Type} (xs : List (α × List Nat)) : List (α × D) := xs.map fun q => (q.1, haD q.2)
theorem val_keys {α : Type} (xs : List (α × List Nat)) : (valD xs).map (·.1) = xs.map (·.1) := by unfold valD; rw [List.map_map]; rfl
theorem val_look {α : Type} [BEq α] (xs : List (α × List Nat)) (k : α) : (valD xs).lookup k = (xs.lookup k).map haD := by
  unfold valD
  induction xs with
  | nil => rfl
  | cons x xs ih =>
    rw [List.map_cons, List.lookup_cons, List.lookup_cons]
    cases k == x.1
    · exact ih
    · rfl
theorem val_app {α : Type} (xs : List (α × List Nat)) (k : α) (r : List Nat) : valD (xs ++ [(k, r)]) = valD xs ++ [(k, haD r)] := by unfold valD; rw [List.map_append]; rfl
/-- rows and ends as dicts -/
def rowsD (O : List Ent) : List (D × D) := encKv haD (valD O)
def endsD (E : List ((Bool × Nat) × List Nat)) : List (D × D) := encKv plD (valD E)
theorem optH_map (x : Option (List Nat)) : (x.map haD).getD .non = (match x with | none => D.non | some r => haD r) := by cases x <;> rfl
theorem rows_look (O : List Ent) (o : List Nat) : look (rowsD O) (haD o) = (O.lookup o).map haD := by unfold rowsD; rw [enc_look enc_ha, val_look]
theorem ends_look (E : List ((Bool × Nat) × List Nat)) (p : Bool × Nat) : look (endsD E) (plD p) = (E.lookup p).map haD := by unfold endsD; rw [enc_look enc_pl, val_look]
theorem rows_any (O : List Ent) (o : List Nat) : ((rowsD O).any fun p => eqv p.1 (haD o)) = decide (o ∈ O.map (·.1)) := by unfold rowsD; rw [enc_any enc_ha, val_keys]; exact decide_eq_decide.mpr Iff.rfl
theorem ends_any (E : List ((Bool × Nat) × List Nat)) (p : Bool × Nat) : ((endsD E).any fun q => eqv q.1 (plD p)) = decide (p ∈ E.map (·.1)) := by unfold endsD; rw [enc_any enc_pl, val_keys]; exact decide_eq_decide.mpr Iff.rfl
theorem rows_stor (O : List Ent) (o r : List Nat) (h : o ∉ O.map (·.1)) : stor (rowsD O) (haD o) (haD r) = rowsD (O ++ [(o, r)]) := by unfold rowsD; rw [enc_stor enc_ha _ _ _ (by rw [val_keys]; exact h), val_app]
theorem ends_stor (E : List ((Bool × Nat) × List Nat)) (p : Bool × Nat) (r : List Nat) (h : p ∉ E.map (·.1)) : stor (endsD E) (plD p) (haD r) = endsD (E ++ [(p, r)]) := by unfold endsD; rw [enc_stor enc_pl _ _ _ (by rw [val_keys]; exact h), val_app]
theorem rows_len (O : List Ent) : (rowsD O).length = O.length := by unfold rowsD encKv valD; rw [List.length_map, List.length_map]
theorem ends_len (E : List ((Bool × Nat) × List Nat)) : (endsD E).length = E.length := by unfold endsD encKv valD; rw [List.length_map, List.length_map]
theorem rows_keys (O : List Ent) : (rowsD O).map (·.1) = (O.map (·.1)).map haD := by unfold rowsD; rw [enc_keys, val_keys]
/-! ### the whole -/
section
variable {b : Bd} {o0 : List Nat}
theorem pre1 (b : Bd) (here : Ent) (S : BS) (s : Nat) : ∃ t, (proc1 b here S s).1 = S.1 ++ t := by
  unfold proc1
  dsimp only
  split
  · exact ⟨[], (List.append_nil _).symm⟩
  · exact ⟨_, rfl⟩
theorem preJ (b : Bd) (here : Ent) (S : BS) : ∀ j, ∃ t, (procJ b here S j).1 = S.1 ++ t
  | 0 => ⟨[], (List.append_nil _).symm⟩
  | j + 1 => by
    obtain ⟨t, e⟩ := preJ b here S j
    obtain ⟨u, f⟩ := pre1 b here (procJ b here S j) j
    exact ⟨t ++ u, by rw [procJ_succ, f, e, List.append_assoc]⟩
theorem seq_succ {i : Nat} {here : Ent} (e : (seqO b o0 i).1[i]? = some here) : seqO b o0 (i + 1) = procJ b here (seqO b o0 i) b.sw.length := by
  show (match (seqO b o0 i).1[i]? with | some here => procJ b here (seqO b o0 i) b.sw.length | none => seqO b o0 i) = _
  rw [e]
theorem seq_stop {i : Nat} (e : (seqO b o0 i).1.length ≤ i) : seqO b o0 (i + 1) = seqO b o0 i := by
  show (match (seqO b o0 i).1[i]? with | some here => procJ b here (seqO b o0 i) b.sw.length | none => seqO b o0 i) = _
  rw [List.getElem?_eq_none e]
theorem preO (i : Nat) : ∀ k, ∃ t, (seqO b o0 (i + k)).1 = (seqO b o0 i).1 ++ t
  | 0 => ⟨[], (List.append_nil _).symm⟩
  | k + 1 => by
    obtain ⟨t, e⟩ := preO i k
    cases q : (seqO b o0 (i + k)).1[i + k]? with
    | some here =>
      obtain ⟨u, f⟩ := preJ b here (seqO b o0 (i + k)) b.sw.length
      exact ⟨t ++ u, by rw [← Nat.add_assoc, seq_succ q, f, e, List.append_assoc]⟩
    | none => exact ⟨t, by rw [← Nat.add_assoc, seq_stop (List.getElem?_eq_none_iff.mp q), e]⟩
theorem seq_get {i j m : Nat} {e : Ent} (h : i ≤ j) (q : (seqO b o0 i).1[m]? = some e) : (seqO b o0 j).1[m]? = some e := by
  obtain ⟨k, rfl⟩ : ∃ k, j = i + k := ⟨j - i, by omega⟩
  obtain ⟨t, f⟩ := preO (b := b) (o0 := o0) i k
  rw [f]; exact get_app q
theorem seq_len (hR : Rests b) (h0 : haOk b o0) (i : Nat) : (seqO b o0 i).1.length ≤ manyL b.sw := by
  have I := seq_inv hR h0 i
  rw [← allL_len, ← List.length_map (f := (·.1))]
  exact nodup_sub2 I.nd fun x hx => by
    obtain ⟨e, he, rfl⟩ := List.mem_map.mp hx
    exact mem_all (I.ok e he).1
theorem seq_const {i : Nat} (e : (seqO b o0 i).1.length ≤ i) : ∀ k, seqO b o0 (i + k) = seqO b o0 i
  | 0 => rfl
  | k + 1 => by
    have ih := seq_const e k
    rw [← Nat.add_assoc, seq_stop (by rw [ih]; omega), ih]
noncomputable def fin (b : Bd) (o0 : List Nat) : BS := seqO b o0 (manyL b.sw)
theorem seq_fin (hR : Rests b) (h0 : haOk b o0) {i : Nat} (e : (seqO b o0 i).1.length ≤ i) : seqO b o0 i = fin b o0 := by
  unfold fin
  by_cases h : i ≤ manyL b.sw
  · have := seq_const e (manyL b.sw - i)
    rw [show i + (manyL b.sw - i) = manyL b.sw by omega] at this
    exact this.symm
  · have := seq_const (b := b) (o0 := o0) (seq_len hR h0 (manyL b.sw)) (i - manyL b.sw)
    rw [show manyL b.sw + (i - manyL b.sw) = i by omega] at this
    exact this
theorem fin_inv (hR : Rests b) (h0 : haOk b o0) : BI b o0 (manyL b.sw) (fin b o0) := seq_inv hR h0 _
theorem fin_len (hR : Rests b) (h0 : haOk b o0) : (fin b o0).1.length ≤ manyL b.sw := seq_len hR h0 _
theorem lookup_nodup {α β : Type} [BEq α] [LawfulBEq α] {xs : List (α × β)} {k : α} {v : β} (n : (xs.map (·.1)).Nodup) (h : (k, v) ∈ xs) : xs.lookup k = some v := by
  induction xs with
  | nil => exact absurd h List.not_mem_nil
  | cons x xs ih =>
    rw [List.map_cons, List.nodup_cons] at n
    rw [List.lookup_cons]
    rcases List.mem_cons.mp h with rfl | h
    · have : (k == k) = true := BEq.rfl
      rw [this]
    · have : (k == x.1) = false := by
        cases q : k == x.1 with
        | false => rfl
        | true => exact absurd (List.mem_map.mpr ⟨_, h, (eq_of_beq q)⟩) n.1
      rw [this]; exact ih n.2 h
theorem lookup_mem' {α β : Type} [BEq α] [LawfulBEq α] {xs : List (α × β)} {k : α} {v : β} (h : xs.lookup k = some v) : (k, v) ∈ xs := by
  induction xs with
  | nil => cases h
  | cons x xs ih =>
    rw [List.lookup_cons] at h
    cases q : k == x.1 with
    | true =>
      rw [q] at h
      cases h
      rw [eq_of_beq q]; exact List.mem_cons_self
    | false => rw [q] at h; exact List.mem_cons_of_mem _ (ih h)
/-- a place is led to by three drops -/
theorem row3 (hR : Rests b) (hb : b.Ok 3 4 3) (h0 : haOk b o0) {p : Bool × Nat} {r : List Nat} (h : (fin b o0).2.lookup p = some r) : r.length ≤ 3 := by
  have I := fin_inv hR h0
  have hl := fin_len hR h0
  have hpl : ∀ ex ∈ b.sw, ∀ p ∈ ex, plOk b.cups b.sw.length p := fun ex hx => (hb.ex ex hx).2.2
  have all : ∀ (e : Ent) (s : Nat), e ∈ (fin b o0).1 → s < b.sw.length → (∃ e' ∈ (fin b o0).1, e'.1 = (endS b s e.1).2 ∧ e'.2.length ≤ e.2.length + 1) ∧ ∃ q ∈ (fin b o0).2, q.1 = (endS b s e.1).1 ∧ q.2.length ≤ e.2.length + 1 := fun e s he hs => by
    obtain ⟨m, hm⟩ := List.getElem?_of_mem he
    exact I.cl m e s (by have := (List.getElem?_eq_some_iff.mp hm).1; omega) hs hm
  have hit : ∀ q ∈ (fin b o0).2, q.1 = p → q.2.length ≤ 3 → r.length ≤ 3 := fun q hq e l => by
    have := lookup_nodup (k := q.1) (v := q.2) I.ne hq
    rw [e, h] at this
    rw [Option.some.inj this]; exact l
  obtain ⟨r', s, rfl, hs, hr', oo, ep⟩ := I.en _ (lookup_mem' h)
  obtain ⟨n, _, run, _, rest⟩ := endS_runs hR hs oo
  have e0 : ((o0, []) : Ent) ∈ (fin b o0).1 := List.mem_of_getElem? I.st
  have ep : (endS b s (follow b o0 r')).1 = p := ep
  rcases run_last hpl n _ _ run ⟨hs, oo⟩ with hst | ⟨t, k, ex, hx, hk, ht⟩
  · rw [ep] at hst
    have hst : p = (false, s) := hst
    have hrest : isRest b (false, s) := by rw [← hst, ← ep]; exact rest
    have e1 : endS b s o0 = ((false, s), o0) := endS_of (.stop hrest)
    obtain ⟨_, q, hq, g1, g2⟩ := all (o0, []) s e0 hs
    refine hit q hq (by rw [g1, e1, hst]) (Nat.le_trans g2 (by show 0 + 1 ≤ 3; decide))
  · rw [ep] at hk
    have hrest : isRest b p := by rw [← ep]; exact rest
    obtain ⟨i, hi, hh⟩ := hit3 hR hpl hx hk hrest ht (hb.ex ex (List.mem_of_getElem? hx)).2.1 h0
    have led : ∀ i, ∃ e ∈ (fin b o0).1, e.1 = dropN b t o0 i ∧ e.2.length ≤ i := by
      intro i
      induction i with
      | zero => exact ⟨_, e0, rfl, Nat.le_refl _⟩
      | succ i ih =>
        obtain ⟨e, he, g1, g2⟩ := ih
        obtain ⟨⟨e', he', k1, k2⟩, _⟩ := all e t he ht.lt
        exact ⟨e', he', by rw [k1, g1]; rfl, by omega⟩
    obtain ⟨e, he, g1, g2⟩ := led i
    obtain ⟨_, q, hq, k1, k2⟩ := all e t he ht.lt
    exact hit q hq (by rw [k1, g1, hh]) (by omega)
end
end Mp
namespace Mp
section
variable {b : Bd} {h : Hh} {X : PX} {Q : PV} {s : Nat} {hs : List Nat} {p : Bool × Nat}
theorem sp_comesE (hb : b.Ok 3 4 3) (hR : Rests b) (hs' : s < b.sw.length) (ho : haOk b hs) (q : ∀ h', Ext h h' → Q (.tup [plD (endS b s hs).1, haD (endS b s hs).2]) h') : wpF fn_raw_comes [bdD b, haD hs, .int s] h X Q := by
  obtain ⟨n, n1, r, _, _⟩ := endS_runs hR hs' ho
  exact sp_raw_comes hb (by decide) (by decide) ⟨hs', ho⟩ r n1 q
theorem sp_ldropE (hb : b.Ok 3 4 3) (hR : Rests b) (hs' : s < b.sw.length) (ho : haOk b hs) (q : ∀ h', Ext h h' → Q (.tup [plD (endS b s hs).1, haD (endS b s hs).2]) h') : wpF fn__law_drop [bdD b, haD hs, .int s] h X Q := by
  obtain ⟨n, n1, r, _, _⟩ := endS_runs hR hs' ho
  exact sp__law_drop hb (by decide) (by decide) ⟨hs', ho⟩ r n1 q
def optI : Option Nat → D
  | none => .non
  | some n => .int n
noncomputable def firstN (b : Bd) (s : Nat) (p : Bool × Nat) : Nat → List (List Nat) → List Nat → Option Nat
  | 0, _, _ => none
  | n + 1, met, o => if o ∈ met then none else if (endS b s o).1 = p then some (met.length + 1) else firstN b s p n (met ++ [o]) (endS b s o).2
noncomputable def first (b : Bd) (s : Nat) (p : Bool × Nat) (o : List Nat) : Option Nat := firstN b s p (manyL b.sw + 1) [] o
theorem met_len {met : List (List Nat)} (n : met.Nodup) (ok : ∀ o ∈ met, haOk b o) : met.length ≤ manyL b.sw := by
  rw [← allL_len]; exact nodup_sub2 n fun x hx => mem_all (ok x hx)
theorem met_snoc {met : List (List Nat)} {o : List Nat} (n : met.Nodup) (z : o ∉ met) : (met ++ [o]).Nodup := by
  refine List.nodup_append.mpr ⟨n, by simp, fun a ha c hc y => ?_⟩
  rw [List.mem_singleton] at hc
  exact z (by rw [← hc, ← y]; exact ha)
theorem met_ok {met : List (List Nat)} {o : List Nat} (ok : ∀ x ∈ met, haOk b x) (oo : haOk b o) : ∀ x ∈ met ++ [o], haOk b x := fun x hx => by
  rcases List.mem_append.mp hx with hx | hx
  · exact ok x hx
  · rw [List.mem_singleton.mp hx]; exact oo
theorem sp__law_first (hb : b.Ok 3 4 3) (hR : Rests b) (hm : manyL b.sw ≤ 1000) (hs' : s < b.sw.length) (ho : haOk b hs) (q : ∀ h', Ext h h' → Q (optI (first b s p hs)) h') : wpF fn__law_first [bdD b, haD hs, .int s, plD p] h X Q := by
  refine vF_to ?_
  simp only [fn__law_first, b__law_first_1, vF_mk, vE_lit, vE_var, vE_bin, vE_neg, vE_not, vE_and, vE_or, vE_cmp, vE_chain, vE_ite, vE_tup, vE_lst, vE_dnew, vE_dnewT, vE_ddisT, vE_dget, vE_fld, vE_new, vE_mcall, vS_fset, vE_idx, vE_slc, vE_call, vE_bf, vE_meth, vE_comp, vE_dcomp, vO_none, vO_some, vC_none, vC_some, vA_nil, vA_cons, vI_rng1, vI_rng2, vS_expr, vS_asg, vS_par, vS_ret, vS_ifs, vS_whl, vS_for, vS_raise, vS_pass, vS_brk, vS_cont, vB_nil, vB_cons, vI_each, vI_enum, vI_zip, vS_asgIx, vS_aug, each_tup, each_ref, enum_tup, enum_ref, zip_tup, zip_ref, aug_add, aug_sub, tg_name, tg_nil, tg_cons, o_add, o_addT, o_addL, o_addS, o_sub, o_mul, o_mulT, o_neB, o_isnotB, o_isB, o_fdiv, o_mod, o_pow, o_eqI, o_neI, o_lt, o_le, o_gt, o_ge, o_is, o_isnot, o_in, o_notin, f_abs, f_str, f_int, f_isi, f_len, f_tuple, f_list, asInt_int, ty_append, ty_extend, ty_update, ty_count, ty_index, Lit.d, truth_bl, truth_non, truth_int, truth_tup, seqD_tup, lenD_tup, tyD_bl, tyD_int, tyD_str, tyD_non, tyD_tup, List.getElem?_cons_zero, List.getElem?_cons_succ, List.set_cons_zero, List.set_cons_succ, Option.some.injEq, exists_eq_left', List.map_cons, List.map_nil, List.cons_append, List.nil_append, List.length_cons, List.length_nil, List.replicate, setAll, wipeD, if_true, if_false, Bool.false_eq_true]
  refine ⟨trivial, by decide, fun g hg => ⟨trivial, ?_⟩⟩
  simp only [b__law_first_2, vE_lit, vE_var, vE_bin, vE_neg, vE_not, vE_and, vE_or, vE_cmp, vE_chain, vE_ite, vE_tup, vE_lst, vE_dnew, vE_dnewT, vE_ddisT, vE_dget, vE_fld, vE_new, vE_mcall, vS_fset, vE_idx, vE_slc, vE_call, vE_bf, vE_meth, vE_comp, vE_dcomp, vO_none, vO_some, vC_none, vC_some, vA_nil, vA_cons, vI_rng1, vI_rng2, vS_expr, vS_asg, vS_par, vS_ret, vS_ifs, vS_whl, vS_for, vS_raise, vS_pass, vS_brk, vS_cont, vB_nil, vB_cons, vI_each, vI_enum, vI_zip, vS_asgIx, vS_aug, each_tup, each_ref, enum_tup, enum_ref, zip_tup, zip_ref, aug_add, aug_sub, tg_name, tg_nil, tg_cons, o_add, o_addT, o_addL, o_addS, o_sub, o_mul, o_mulT, o_neB, o_isnotB, o_isB, o_fdiv, o_mod, o_pow, o_eqI, o_neI, o_lt, o_le, o_gt, o_ge, o_is, o_isnot, o_in, o_notin, f_abs, f_str, f_int, f_isi, f_len, f_tuple, f_list, asInt_int, ty_append, ty_extend, ty_update, ty_count, ty_index, Lit.d, truth_bl, truth_non, truth_int, truth_tup, seqD_tup, lenD_tup, tyD_bl, tyD_int, tyD_str, tyD_non, tyD_tup, List.getElem?_cons_zero, List.getElem?_cons_succ, List.set_cons_zero, List.set_cons_succ, Option.some.injEq, exists_eq_left', List.map_cons, List.map_nil, List.cons_append, List.nil_append, List.length_cons, List.length_nil, List.replicate, setAll, wipeD, if_true, if_false, Bool.false_eq_true]
  refine whl_inv (fun m σ' h' => ∃ met o o6, σ' = [some (bdD b), some (haD o), some (.int s), some (plD p), some (.ref g), some (.int (met.length : Nat)), o6] ∧ met.Nodup ∧ (∀ x ∈ met, haOk b x) ∧ haOk b o ∧ m + met.length = manyL b.sw + 1 ∧ firstN b s p m met o = first b s p hs ∧ Ext h h' ∧ h' g = some (.lst (met.map haD))) ?_ (m := manyL b.sw + 1) ⟨[], hs, _, rfl, List.nodup_nil, fun _ z => absurd z List.not_mem_nil, ho, by rfl, rfl, .up hg, up_same⟩
  rintro m σ' h' k ⟨met, o, o6, rfl, nd, ok, oo, em, ef, e, hg'⟩ hk
  simp only [vE_lit, vE_var, vE_bin, vE_neg, vE_not, vE_and, vE_or, vE_cmp, vE_chain, vE_ite, vE_tup, vE_lst, vE_dnew, vE_dnewT, vE_ddisT, vE_dget, vE_fld, vE_new, vE_mcall, vS_fset, vE_idx, vE_slc, vE_call, vE_bf, vE_meth, vE_comp, vE_dcomp, vO_none, vO_some, vC_none, vC_some, vA_nil, vA_cons, vI_rng1, vI_rng2, vS_expr, vS_asg, vS_par, vS_ret, vS_ifs, vS_whl, vS_for, vS_raise, vS_pass, vS_brk, vS_cont, vB_nil, vB_cons, vI_each, vI_enum, vI_zip, vS_asgIx, vS_aug, each_tup, each_ref, enum_tup, enum_ref, zip_tup, zip_ref, aug_add, aug_sub, tg_name, tg_nil, tg_cons, o_add, o_addT, o_addL, o_addS, o_sub, o_mul, o_mulT, o_neB, o_isnotB, o_isB, o_fdiv, o_mod, o_pow, o_eqI, o_neI, o_lt, o_le, o_gt, o_ge, o_is, o_isnot, o_in, o_notin, f_abs, f_str, f_int, f_isi, f_len, f_tuple, f_list, asInt_int, ty_append, ty_extend, ty_update, ty_count, ty_index, Lit.d, truth_bl, truth_non, truth_int, truth_tup, seqD_tup, lenD_tup, tyD_bl, tyD_int, tyD_str, tyD_non, tyD_tup, List.getElem?_cons_zero, List.getElem?_cons_succ, List.set_cons_zero, List.set_cons_succ, Option.some.injEq, exists_eq_left', List.map_cons, List.map_nil, List.cons_append, List.nil_append, List.length_cons, List.length_nil, List.replicate, setAll, wipeD, if_true, if_false, Bool.false_eq_true]
  rw [mem_P hg' (enc_ha.p _) (enc_ha.pl20s _), enc_ha.mem]
  have ml := met_len nd ok
  obtain ⟨m, rfl⟩ : ∃ j, m = j + 1 := ⟨m - 1, by omega⟩
  rw [firstN] at ef
  by_cases z : o ∈ met
  · rw [if_pos z] at ef
    simp only [z, decide_true, Bool.not_true, truth_bl, Option.some.injEq, exists_eq_left', Bool.false_eq_true, if_false]
    simp only [b__law_first_8, vE_lit, vE_var, vE_bin, vE_neg, vE_not, vE_and, vE_or, vE_cmp, vE_chain, vE_ite, vE_tup, vE_lst, vE_dnew, vE_dnewT, vE_ddisT, vE_dget, vE_fld, vE_new, vE_mcall, vS_fset, vE_idx, vE_slc, vE_call, vE_bf, vE_meth, vE_comp, vE_dcomp, vO_none, vO_some, vC_none, vC_some, vA_nil, vA_cons, vI_rng1, vI_rng2, vS_expr, vS_asg, vS_par, vS_ret, vS_ifs, vS_whl, vS_for, vS_raise, vS_pass, vS_brk, vS_cont, vB_nil, vB_cons, vI_each, vI_enum, vI_zip, vS_asgIx, vS_aug, each_tup, each_ref, enum_tup, enum_ref, zip_tup, zip_ref, aug_add, aug_sub, tg_name, tg_nil, tg_cons, o_add, o_addT, o_addL, o_addS, o_sub, o_mul, o_mulT, o_neB, o_isnotB, o_isB, o_fdiv, o_mod, o_pow, o_eqI, o_neI, o_lt, o_le, o_gt, o_ge, o_is, o_isnot, o_in, o_notin, f_abs, f_str, f_int, f_isi, f_len, f_tuple, f_list, asInt_int, ty_append, ty_extend, ty_update, ty_count, ty_index, Lit.d, truth_bl, truth_non, truth_int, truth_tup, seqD_tup, lenD_tup, tyD_bl, tyD_int, tyD_str, tyD_non, tyD_tup, List.getElem?_cons_zero, List.getElem?_cons_succ, List.set_cons_zero, List.set_cons_succ, Option.some.injEq, exists_eq_left', List.map_cons, List.map_nil, List.cons_append, List.nil_append, List.length_cons, List.length_nil, List.replicate, setAll, wipeD, if_true, if_false, Bool.false_eq_true]
    rw [← ef] at q; exact q h' e
  · rw [if_neg z] at ef
    simp only [z, decide_false, Bool.not_false, truth_bl, Option.some.injEq, exists_eq_left', if_true]
    simp only [b__law_first_3, vE_lit, vE_var, vE_bin, vE_neg, vE_not, vE_and, vE_or, vE_cmp, vE_chain, vE_ite, vE_tup, vE_lst, vE_dnew, vE_dnewT, vE_ddisT, vE_dget, vE_fld, vE_new, vE_mcall, vS_fset, vE_idx, vE_slc, vE_call, vE_bf, vE_meth, vE_comp, vE_dcomp, vO_none, vO_some, vC_none, vC_some, vA_nil, vA_cons, vI_rng1, vI_rng2, vS_expr, vS_asg, vS_par, vS_ret, vS_ifs, vS_whl, vS_for, vS_raise, vS_pass, vS_brk, vS_cont, vB_nil, vB_cons, vI_each, vI_enum, vI_zip, vS_asgIx, vS_aug, each_tup, each_ref, enum_tup, enum_ref, zip_tup, zip_ref, aug_add, aug_sub, tg_name, tg_nil, tg_cons, o_add, o_addT, o_addL, o_addS, o_sub, o_mul, o_mulT, o_neB, o_isnotB, o_isB, o_fdiv, o_mod, o_pow, o_eqI, o_neI, o_lt, o_le, o_gt, o_ge, o_is, o_isnot, o_in, o_notin, f_abs, f_str, f_int, f_isi, f_len, f_tuple, f_list, asInt_int, ty_append, ty_extend, ty_update, ty_count, ty_index, Lit.d, truth_bl, truth_non, truth_int, truth_tup, seqD_tup, lenD_tup, tyD_bl, tyD_int, tyD_str, tyD_non, tyD_tup, List.getElem?_cons_zero, List.getElem?_cons_succ, List.set_cons_zero, List.set_cons_succ, Option.some.injEq, exists_eq_left', List.map_cons, List.map_nil, List.cons_append, List.nil_append, List.length_cons, List.length_nil, List.replicate, setAll, wipeD, if_true, if_false, Bool.false_eq_true, tyD_lst hg', m_append]
    have nd2 := met_snoc nd z
    have ok2 := met_ok ok oo
    have ml2 := met_len nd2 ok2
    rw [List.length_append] at ml2
    have ml2 : met.length + 1 ≤ manyL b.sw := ml2
    refine ⟨trivial, _, hg', by rw [List.length_map]; exact szl (by omega), ?_⟩
    simp only [b__law_first_4, vE_lit, vE_var, vE_bin, vE_neg, vE_not, vE_and, vE_or, vE_cmp, vE_chain, vE_ite, vE_tup, vE_lst, vE_dnew, vE_dnewT, vE_ddisT, vE_dget, vE_fld, vE_new, vE_mcall, vS_fset, vE_idx, vE_slc, vE_call, vE_bf, vE_meth, vE_comp, vE_dcomp, vO_none, vO_some, vC_none, vC_some, vA_nil, vA_cons, vI_rng1, vI_rng2, vS_expr, vS_asg, vS_par, vS_ret, vS_ifs, vS_whl, vS_for, vS_raise, vS_pass, vS_brk, vS_cont, vB_nil, vB_cons, vI_each, vI_enum, vI_zip, vS_asgIx, vS_aug, each_tup, each_ref, enum_tup, enum_ref, zip_tup, zip_ref, aug_add, aug_sub, tg_name, tg_nil, tg_cons, o_add, o_addT, o_addL, o_addS, o_sub, o_mul, o_mulT, o_neB, o_isnotB, o_isB, o_fdiv, o_mod, o_pow, o_eqI, o_neI, o_lt, o_le, o_gt, o_ge, o_is, o_isnot, o_in, o_notin, f_abs, f_str, f_int, f_isi, f_len, f_tuple, f_list, asInt_int, ty_append, ty_extend, ty_update, ty_count, ty_index, Lit.d, truth_bl, truth_non, truth_int, truth_tup, seqD_tup, lenD_tup, tyD_bl, tyD_int, tyD_str, tyD_non, tyD_tup, List.getElem?_cons_zero, List.getElem?_cons_succ, List.set_cons_zero, List.set_cons_succ, Option.some.injEq, exists_eq_left', List.map_cons, List.map_nil, List.cons_append, List.nil_append, List.length_cons, List.length_nil, List.replicate, setAll, wipeD, if_true, if_false, Bool.false_eq_true]
    refine vF_of <| sp_ldropE hb hR hs' oo fun h2 e2 => ?_
    simp only [tg_cons, tg_name, tg_nil]
    simp only [b__law_first_5, b__law_first_6, vE_lit, vE_var, vE_bin, vE_neg, vE_not, vE_and, vE_or, vE_cmp, vE_chain, vE_ite, vE_tup, vE_lst, vE_dnew, vE_dnewT, vE_ddisT, vE_dget, vE_fld, vE_new, vE_mcall, vS_fset, vE_idx, vE_slc, vE_call, vE_bf, vE_meth, vE_comp, vE_dcomp, vO_none, vO_some, vC_none, vC_some, vA_nil, vA_cons, vI_rng1, vI_rng2, vS_expr, vS_asg, vS_par, vS_ret, vS_ifs, vS_whl, vS_for, vS_raise, vS_pass, vS_brk, vS_cont, vB_nil, vB_cons, vI_each, vI_enum, vI_zip, vS_asgIx, vS_aug, each_tup, each_ref, enum_tup, enum_ref, zip_tup, zip_ref, aug_add, aug_sub, tg_name, tg_nil, tg_cons, o_add, o_addT, o_addL, o_addS, o_sub, o_mul, o_mulT, o_neB, o_isnotB, o_isB, o_fdiv, o_mod, o_pow, o_eqI, o_neI, o_lt, o_le, o_gt, o_ge, o_is, o_isnot, o_in, o_notin, f_abs, f_str, f_int, f_isi, f_len, f_tuple, f_list, asInt_int, ty_append, ty_extend, ty_update, ty_count, ty_index, Lit.d, truth_bl, truth_non, truth_int, truth_tup, seqD_tup, lenD_tup, tyD_bl, tyD_int, tyD_str, tyD_non, tyD_tup, List.getElem?_cons_zero, List.getElem?_cons_succ, List.set_cons_zero, List.set_cons_succ, Option.some.injEq, exists_eq_left', List.map_cons, List.map_nil, List.cons_append, List.nil_append, List.length_cons, List.length_nil, List.replicate, setAll, wipeD, if_true, if_false, Bool.false_eq_true]
    rw [o_eqP (enc_pl.p _) (enc_pl.p _), enc_pl.dec]
    obtain ⟨_, _, _, oke, _⟩ := endS_runs hR hs' oo
    have ee : Ext h h2 := (e.wr hg).trans e2
    by_cases y : (endS b s o).1 = p
    · rw [if_pos y] at ef
      simp only [y, decide_true, truth_bl, Option.some.injEq, exists_eq_left', if_true]
      simp only [b__law_first_7, vE_lit, vE_var, vE_bin, vE_neg, vE_not, vE_and, vE_or, vE_cmp, vE_chain, vE_ite, vE_tup, vE_lst, vE_dnew, vE_dnewT, vE_ddisT, vE_dget, vE_fld, vE_new, vE_mcall, vS_fset, vE_idx, vE_slc, vE_call, vE_bf, vE_meth, vE_comp, vE_dcomp, vO_none, vO_some, vC_none, vC_some, vA_nil, vA_cons, vI_rng1, vI_rng2, vS_expr, vS_asg, vS_par, vS_ret, vS_ifs, vS_whl, vS_for, vS_raise, vS_pass, vS_brk, vS_cont, vB_nil, vB_cons, vI_each, vI_enum, vI_zip, vS_asgIx, vS_aug, each_tup, each_ref, enum_tup, enum_ref, zip_tup, zip_ref, aug_add, aug_sub, tg_name, tg_nil, tg_cons, o_add, o_addT, o_addL, o_addS, o_sub, o_mul, o_mulT, o_neB, o_isnotB, o_isB, o_fdiv, o_mod, o_pow, o_eqI, o_neI, o_lt, o_le, o_gt, o_ge, o_is, o_isnot, o_in, o_notin, f_abs, f_str, f_int, f_isi, f_len, f_tuple, f_list, asInt_int, ty_append, ty_extend, ty_update, ty_count, ty_index, Lit.d, truth_bl, truth_non, truth_int, truth_tup, seqD_tup, lenD_tup, tyD_bl, tyD_int, tyD_str, tyD_non, tyD_tup, List.getElem?_cons_zero, List.getElem?_cons_succ, List.set_cons_zero, List.set_cons_succ, Option.some.injEq, exists_eq_left', List.map_cons, List.map_nil, List.cons_append, List.nil_append, List.length_cons, List.length_nil, List.replicate, setAll, wipeD, if_true, if_false, Bool.false_eq_true]
      rw [← ef] at q; exact q h2 ee
    · rw [if_neg y] at ef
      simp only [y, decide_false, truth_bl, Option.some.injEq, exists_eq_left', Bool.false_eq_true, if_false, vB_nil]
      refine hk m _ _ (Nat.lt_succ_self m) ⟨met ++ [o], (endS b s o).2, some (plD (endS b s o).1), ?_, nd2, ok2, oke.2, by rw [List.length_append]; show m + (met.length + 1) = _; omega, ef, ee, ?_⟩
      · rw [List.length_append]; rfl
      · rw [e2 _ _ up_same, List.map_append]; rfl
def metD (met : List (List Nat)) : List (D × D) := encKv haD (met.map fun o => (o, D.bl true))
theorem met_any (met : List (List Nat)) (o : List Nat) : ((metD met).any fun q => eqv q.1 (haD o)) = decide (o ∈ met) := by
  unfold metD
  rw [enc_any enc_ha]
  rw [decide_eq_decide, List.map_map]
  have : (Prod.fst ∘ fun o : List Nat => (o, D.bl true)) = id := rfl
  rw [this, List.map_id]
theorem met_stor (met : List (List Nat)) (o : List Nat) (z : o ∉ met) : stor (metD met) (haD o) (.bl true) = metD (met ++ [o]) := by
  unfold metD
  rw [enc_stor enc_ha, List.map_append]; rfl
  rw [List.map_map]
  have : (Prod.fst ∘ fun o : List Nat => (o, D.bl true)) = id := rfl
  rw [this, List.map_id]; exact z
theorem met_lenD (met : List (List Nat)) : (metD met).length = met.length := by unfold metD encKv; rw [List.length_map, List.length_map]
theorem sp_first_drop (hb : b.Ok 3 4 3) (hR : Rests b) (hm : manyL b.sw ≤ 1000) (hs' : s < b.sw.length) (ho : haOk b hs) (okp : plOk b.cups b.sw.length p) (hr : isRest b p) (q : ∀ h', Ext h h' → Q (optI (first b s p hs)) h') : wpF fn_first_drop [bdD b, haD hs, .int s, plD p] h X Q := by
  have hw : b.Ok 4 24 4 := hb.wide (by decide) (by decide) (by decide)
  refine vF_to ?_
  simp only [fn_first_drop, b_first_drop_1, vF_mk, vE_lit, vE_var, vE_bin, vE_neg, vE_not, vE_and, vE_or, vE_cmp, vE_chain, vE_ite, vE_tup, vE_lst, vE_dnew, vE_dnewT, vE_ddisT, vE_dget, vE_fld, vE_new, vE_mcall, vS_fset, vE_idx, vE_slc, vE_call, vE_bf, vE_meth, vE_comp, vE_dcomp, vO_none, vO_some, vC_none, vC_some, vA_nil, vA_cons, vI_rng1, vI_rng2, vS_expr, vS_asg, vS_par, vS_ret, vS_ifs, vS_whl, vS_for, vS_raise, vS_pass, vS_brk, vS_cont, vB_nil, vB_cons, vI_each, vI_enum, vI_zip, vS_asgIx, vS_aug, each_tup, each_ref, enum_tup, enum_ref, zip_tup, zip_ref, aug_add, aug_sub, tg_name, tg_nil, tg_cons, o_add, o_addT, o_addL, o_addS, o_sub, o_mul, o_mulT, o_neB, o_isnotB, o_isB, o_fdiv, o_mod, o_pow, o_eqI, o_neI, o_lt, o_le, o_gt, o_ge, o_is, o_isnot, o_in, o_notin, f_abs, f_str, f_int, f_isi, f_len, f_tuple, f_list, asInt_int, ty_append, ty_extend, ty_update, ty_count, ty_index, Lit.d, truth_bl, truth_non, truth_int, truth_tup, seqD_tup, lenD_tup, tyD_bl, tyD_int, tyD_str, tyD_non, tyD_tup, List.getElem?_cons_zero, List.getElem?_cons_succ, List.set_cons_zero, List.set_cons_succ, Option.some.injEq, exists_eq_left', List.map_cons, List.map_nil, List.cons_append, List.nil_append, List.length_cons, List.length_nil, List.replicate, setAll, wipeD, if_true, if_false, Bool.false_eq_true]
  refine ⟨trivial, vF_of <| sp_check_board hw fun h1 e1 => ?_⟩
  simp only [b_first_drop_2, vE_lit, vE_var, vE_bin, vE_neg, vE_not, vE_and, vE_or, vE_cmp, vE_chain, vE_ite, vE_tup, vE_lst, vE_dnew, vE_dnewT, vE_ddisT, vE_dget, vE_fld, vE_new, vE_mcall, vS_fset, vE_idx, vE_slc, vE_call, vE_bf, vE_meth, vE_comp, vE_dcomp, vO_none, vO_some, vC_none, vC_some, vA_nil, vA_cons, vI_rng1, vI_rng2, vS_expr, vS_asg, vS_par, vS_ret, vS_ifs, vS_whl, vS_for, vS_raise, vS_pass, vS_brk, vS_cont, vB_nil, vB_cons, vI_each, vI_enum, vI_zip, vS_asgIx, vS_aug, each_tup, each_ref, enum_tup, enum_ref, zip_tup, zip_ref, aug_add, aug_sub, tg_name, tg_nil, tg_cons, o_add, o_addT, o_addL, o_addS, o_sub, o_mul, o_mulT, o_neB, o_isnotB, o_isB, o_fdiv, o_mod, o_pow, o_eqI, o_neI, o_lt, o_le, o_gt, o_ge, o_is, o_isnot, o_in, o_notin, f_abs, f_str, f_int, f_isi, f_len, f_tuple, f_list, asInt_int, ty_append, ty_extend, ty_update, ty_count, ty_index, Lit.d, truth_bl, truth_non, truth_int, truth_tup, seqD_tup, lenD_tup, tyD_bl, tyD_int, tyD_str, tyD_non, tyD_tup, List.getElem?_cons_zero, List.getElem?_cons_succ, List.set_cons_zero, List.set_cons_succ, Option.some.injEq, exists_eq_left', List.map_cons, List.map_nil, List.cons_append, List.nil_append, List.length_cons, List.length_nil, List.replicate, setAll, wipeD, if_true, if_false, Bool.false_eq_true]
  refine vF_of <| sp_check_hands hw ho fun h2 e2 => ?_
  simp only [b_first_drop_3, vE_lit, vE_var, vE_bin, vE_neg, vE_not, vE_and, vE_or, vE_cmp, vE_chain, vE_ite, vE_tup, vE_lst, vE_dnew, vE_dnewT, vE_ddisT, vE_dget, vE_fld, vE_new, vE_mcall, vS_fset, vE_idx, vE_slc, vE_call, vE_bf, vE_meth, vE_comp, vE_dcomp, vO_none, vO_some, vC_none, vC_some, vA_nil, vA_cons, vI_rng1, vI_rng2, vS_expr, vS_asg, vS_par, vS_ret, vS_ifs, vS_whl, vS_for, vS_raise, vS_pass, vS_brk, vS_cont, vB_nil, vB_cons, vI_each, vI_enum, vI_zip, vS_asgIx, vS_aug, each_tup, each_ref, enum_tup, enum_ref, zip_tup, zip_ref, aug_add, aug_sub, tg_name, tg_nil, tg_cons, o_add, o_addT, o_addL, o_addS, o_sub, o_mul, o_mulT, o_neB, o_isnotB, o_isB, o_fdiv, o_mod, o_pow, o_eqI, o_neI, o_lt, o_le, o_gt, o_ge, o_is, o_isnot, o_in, o_notin, f_abs, f_str, f_int, f_isi, f_len, f_tuple, f_list, asInt_int, ty_append, ty_extend, ty_update, ty_count, ty_index, Lit.d, truth_bl, truth_non, truth_int, truth_tup, seqD_tup, lenD_tup, tyD_bl, tyD_int, tyD_str, tyD_non, tyD_tup, List.getElem?_cons_zero, List.getElem?_cons_succ, List.set_cons_zero, List.set_cons_succ, Option.some.injEq, exists_eq_left', List.map_cons, List.map_nil, List.cons_append, List.nil_append, List.length_cons, List.length_nil, List.replicate, setAll, wipeD, if_true, if_false, Bool.false_eq_true]
  refine vF_of <| sp_check_switch hs' ?_
  simp only [b_first_drop_4, vE_lit, vE_var, vE_bin, vE_neg, vE_not, vE_and, vE_or, vE_cmp, vE_chain, vE_ite, vE_tup, vE_lst, vE_dnew, vE_dnewT, vE_ddisT, vE_dget, vE_fld, vE_new, vE_mcall, vS_fset, vE_idx, vE_slc, vE_call, vE_bf, vE_meth, vE_comp, vE_dcomp, vO_none, vO_some, vC_none, vC_some, vA_nil, vA_cons, vI_rng1, vI_rng2, vS_expr, vS_asg, vS_par, vS_ret, vS_ifs, vS_whl, vS_for, vS_raise, vS_pass, vS_brk, vS_cont, vB_nil, vB_cons, vI_each, vI_enum, vI_zip, vS_asgIx, vS_aug, each_tup, each_ref, enum_tup, enum_ref, zip_tup, zip_ref, aug_add, aug_sub, tg_name, tg_nil, tg_cons, o_add, o_addT, o_addL, o_addS, o_sub, o_mul, o_mulT, o_neB, o_isnotB, o_isB, o_fdiv, o_mod, o_pow, o_eqI, o_neI, o_lt, o_le, o_gt, o_ge, o_is, o_isnot, o_in, o_notin, f_abs, f_str, f_int, f_isi, f_len, f_tuple, f_list, asInt_int, ty_append, ty_extend, ty_update, ty_count, ty_index, Lit.d, truth_bl, truth_non, truth_int, truth_tup, seqD_tup, lenD_tup, tyD_bl, tyD_int, tyD_str, tyD_non, tyD_tup, List.getElem?_cons_zero, List.getElem?_cons_succ, List.set_cons_zero, List.set_cons_succ, Option.some.injEq, exists_eq_left', List.map_cons, List.map_nil, List.cons_append, List.nil_append, List.length_cons, List.length_nil, List.replicate, setAll, wipeD, if_true, if_false, Bool.false_eq_true]
  refine vF_of <| sp_check_rest hb (by decide) (by decide) (by decide) okp hr fun h3 e3 => ?_
  simp only [b_first_drop_5, vE_lit, vE_var, vE_bin, vE_neg, vE_not, vE_and, vE_or, vE_cmp, vE_chain, vE_ite, vE_tup, vE_lst, vE_dnew, vE_dnewT, vE_ddisT, vE_dget, vE_fld, vE_new, vE_mcall, vS_fset, vE_idx, vE_slc, vE_call, vE_bf, vE_meth, vE_comp, vE_dcomp, vO_none, vO_some, vC_none, vC_some, vA_nil, vA_cons, vI_rng1, vI_rng2, vS_expr, vS_asg, vS_par, vS_ret, vS_ifs, vS_whl, vS_for, vS_raise, vS_pass, vS_brk, vS_cont, vB_nil, vB_cons, vI_each, vI_enum, vI_zip, vS_asgIx, vS_aug, each_tup, each_ref, enum_tup, enum_ref, zip_tup, zip_ref, aug_add, aug_sub, tg_name, tg_nil, tg_cons, o_add, o_addT, o_addL, o_addS, o_sub, o_mul, o_mulT, o_neB, o_isnotB, o_isB, o_fdiv, o_mod, o_pow, o_eqI, o_neI, o_lt, o_le, o_gt, o_ge, o_is, o_isnot, o_in, o_notin, f_abs, f_str, f_int, f_isi, f_len, f_tuple, f_list, asInt_int, ty_append, ty_extend, ty_update, ty_count, ty_index, Lit.d, truth_bl, truth_non, truth_int, truth_tup, seqD_tup, lenD_tup, tyD_bl, tyD_int, tyD_str, tyD_non, tyD_tup, List.getElem?_cons_zero, List.getElem?_cons_succ, List.set_cons_zero, List.set_cons_succ, Option.some.injEq, exists_eq_left', List.map_cons, List.map_nil, List.cons_append, List.nil_append, List.length_cons, List.length_nil, List.replicate, setAll, wipeD, if_true, if_false, Bool.false_eq_true]
  refine fun g hg => ⟨trivial, ?_⟩
  simp only [b_first_drop_6, vE_lit, vE_var, vE_bin, vE_neg, vE_not, vE_and, vE_or, vE_cmp, vE_chain, vE_ite, vE_tup, vE_lst, vE_dnew, vE_dnewT, vE_ddisT, vE_dget, vE_fld, vE_new, vE_mcall, vS_fset, vE_idx, vE_slc, vE_call, vE_bf, vE_meth, vE_comp, vE_dcomp, vO_none, vO_some, vC_none, vC_some, vA_nil, vA_cons, vI_rng1, vI_rng2, vS_expr, vS_asg, vS_par, vS_ret, vS_ifs, vS_whl, vS_for, vS_raise, vS_pass, vS_brk, vS_cont, vB_nil, vB_cons, vI_each, vI_enum, vI_zip, vS_asgIx, vS_aug, each_tup, each_ref, enum_tup, enum_ref, zip_tup, zip_ref, aug_add, aug_sub, tg_name, tg_nil, tg_cons, o_add, o_addT, o_addL, o_addS, o_sub, o_mul, o_mulT, o_neB, o_isnotB, o_isB, o_fdiv, o_mod, o_pow, o_eqI, o_neI, o_lt, o_le, o_gt, o_ge, o_is, o_isnot, o_in, o_notin, f_abs, f_str, f_int, f_isi, f_len, f_tuple, f_list, asInt_int, ty_append, ty_extend, ty_update, ty_count, ty_index, Lit.d, truth_bl, truth_non, truth_int, truth_tup, seqD_tup, lenD_tup, tyD_bl, tyD_int, tyD_str, tyD_non, tyD_tup, List.getElem?_cons_zero, List.getElem?_cons_succ, List.set_cons_zero, List.set_cons_succ, Option.some.injEq, exists_eq_left', List.map_cons, List.map_nil, List.cons_append, List.nil_append, List.length_cons, List.length_nil, List.replicate, setAll, wipeD, if_true, if_false, Bool.false_eq_true]
  have e0 : Ext h h3 := (e1.trans e2).trans e3
  refine whl_inv (fun m σ' h' => ∃ met o o6, σ' = [some (bdD b), some (haD o), some (.int s), some (plD p), some (.ref g), some (.int (met.length : Nat)), o6] ∧ met.Nodup ∧ (∀ x ∈ met, haOk b x) ∧ haOk b o ∧ m + met.length = manyL b.sw + 1 ∧ firstN b s p m met o = first b s p hs ∧ Ext h3 h' ∧ h' g = some (.dcT (metD met))) ?_ (m := manyL b.sw + 1) ⟨[], hs, _, rfl, List.nodup_nil, fun _ z => absurd z List.not_mem_nil, ho, by rfl, rfl, .up hg, up_same⟩
  rintro m σ' h' k ⟨met, o, o6, rfl, nd, ok, oo, em, ef, e, hg'⟩ hk
  simp only [vE_lit, vE_var, vE_bin, vE_neg, vE_not, vE_and, vE_or, vE_cmp, vE_chain, vE_ite, vE_tup, vE_lst, vE_dnew, vE_dnewT, vE_ddisT, vE_dget, vE_fld, vE_new, vE_mcall, vS_fset, vE_idx, vE_slc, vE_call, vE_bf, vE_meth, vE_comp, vE_dcomp, vO_none, vO_some, vC_none, vC_some, vA_nil, vA_cons, vI_rng1, vI_rng2, vS_expr, vS_asg, vS_par, vS_ret, vS_ifs, vS_whl, vS_for, vS_raise, vS_pass, vS_brk, vS_cont, vB_nil, vB_cons, vI_each, vI_enum, vI_zip, vS_asgIx, vS_aug, each_tup, each_ref, enum_tup, enum_ref, zip_tup, zip_ref, aug_add, aug_sub, tg_name, tg_nil, tg_cons, o_add, o_addT, o_addL, o_addS, o_sub, o_mul, o_mulT, o_neB, o_isnotB, o_isB, o_fdiv, o_mod, o_pow, o_eqI, o_neI, o_lt, o_le, o_gt, o_ge, o_is, o_isnot, o_in, o_notin, f_abs, f_str, f_int, f_isi, f_len, f_tuple, f_list, asInt_int, ty_append, ty_extend, ty_update, ty_count, ty_index, Lit.d, truth_bl, truth_non, truth_int, truth_tup, seqD_tup, lenD_tup, tyD_bl, tyD_int, tyD_str, tyD_non, tyD_tup, List.getElem?_cons_zero, List.getElem?_cons_succ, List.set_cons_zero, List.set_cons_succ, Option.some.injEq, exists_eq_left', List.map_cons, List.map_nil, List.cons_append, List.nil_append, List.length_cons, List.length_nil, List.replicate, setAll, wipeD, if_true, if_false, Bool.false_eq_true]
  rw [mem_dcT hg', met_any]
  refine ⟨key_ha _, ?_⟩
  have ml := met_len nd ok
  obtain ⟨m, rfl⟩ : ∃ j, m = j + 1 := ⟨m - 1, by omega⟩
  rw [firstN] at ef
  by_cases z : o ∈ met
  · rw [if_pos z] at ef
    simp only [z, decide_true, Bool.not_true, truth_bl, Option.some.injEq, exists_eq_left', Bool.false_eq_true, if_false]
    simp only [b_first_drop_14, vE_lit, vE_var, vE_bin, vE_neg, vE_not, vE_and, vE_or, vE_cmp, vE_chain, vE_ite, vE_tup, vE_lst, vE_dnew, vE_dnewT, vE_ddisT, vE_dget, vE_fld, vE_new, vE_mcall, vS_fset, vE_idx, vE_slc, vE_call, vE_bf, vE_meth, vE_comp, vE_dcomp, vO_none, vO_some, vC_none, vC_some, vA_nil, vA_cons, vI_rng1, vI_rng2, vS_expr, vS_asg, vS_par, vS_ret, vS_ifs, vS_whl, vS_for, vS_raise, vS_pass, vS_brk, vS_cont, vB_nil, vB_cons, vI_each, vI_enum, vI_zip, vS_asgIx, vS_aug, each_tup, each_ref, enum_tup, enum_ref, zip_tup, zip_ref, aug_add, aug_sub, tg_name, tg_nil, tg_cons, o_add, o_addT, o_addL, o_addS, o_sub, o_mul, o_mulT, o_neB, o_isnotB, o_isB, o_fdiv, o_mod, o_pow, o_eqI, o_neI, o_lt, o_le, o_gt, o_ge, o_is, o_isnot, o_in, o_notin, f_abs, f_str, f_int, f_isi, f_len, f_tuple, f_list, asInt_int, ty_append, ty_extend, ty_update, ty_count, ty_index, Lit.d, truth_bl, truth_non, truth_int, truth_tup, seqD_tup, lenD_tup, tyD_bl, tyD_int, tyD_str, tyD_non, tyD_tup, List.getElem?_cons_zero, List.getElem?_cons_succ, List.set_cons_zero, List.set_cons_succ, Option.some.injEq, exists_eq_left', List.map_cons, List.map_nil, List.cons_append, List.nil_append, List.length_cons, List.length_nil, List.replicate, setAll, wipeD, if_true, if_false, Bool.false_eq_true]
    rw [← ef] at q; exact q h' (e0.trans e)
  · rw [if_neg z] at ef
    simp only [z, decide_false, Bool.not_false, truth_bl, Option.some.injEq, exists_eq_left', if_true]
    have nd2 := met_snoc nd z
    have ok2 := met_ok ok oo
    have ml2 := met_len nd2 ok2
    rw [List.length_append] at ml2
    have ml2 : met.length + 1 ≤ manyL b.sw := ml2
    have n2 : decide (((met.length : Nat) : Int) = 20000) = false := decide_eq_false (by omega)
    simp only [b_first_drop_7, vE_lit, vE_var, vE_bin, vE_neg, vE_not, vE_and, vE_or, vE_cmp, vE_chain, vE_ite, vE_tup, vE_lst, vE_dnew, vE_dnewT, vE_ddisT, vE_dget, vE_fld, vE_new, vE_mcall, vS_fset, vE_idx, vE_slc, vE_call, vE_bf, vE_meth, vE_comp, vE_dcomp, vO_none, vO_some, vC_none, vC_some, vA_nil, vA_cons, vI_rng1, vI_rng2, vS_expr, vS_asg, vS_par, vS_ret, vS_ifs, vS_whl, vS_for, vS_raise, vS_pass, vS_brk, vS_cont, vB_nil, vB_cons, vI_each, vI_enum, vI_zip, vS_asgIx, vS_aug, each_tup, each_ref, enum_tup, enum_ref, zip_tup, zip_ref, aug_add, aug_sub, tg_name, tg_nil, tg_cons, o_add, o_addT, o_addL, o_addS, o_sub, o_mul, o_mulT, o_neB, o_isnotB, o_isB, o_fdiv, o_mod, o_pow, o_eqI, o_neI, o_lt, o_le, o_gt, o_ge, o_is, o_isnot, o_in, o_notin, f_abs, f_str, f_int, f_isi, f_len, f_tuple, f_list, asInt_int, ty_append, ty_extend, ty_update, ty_count, ty_index, Lit.d, truth_bl, truth_non, truth_int, truth_tup, seqD_tup, lenD_tup, tyD_bl, tyD_int, tyD_str, tyD_non, tyD_tup, List.getElem?_cons_zero, List.getElem?_cons_succ, List.set_cons_zero, List.set_cons_succ, Option.some.injEq, exists_eq_left', List.map_cons, List.map_nil, List.cons_append, List.nil_append, List.length_cons, List.length_nil, List.replicate, setAll, wipeD, if_true, if_false, Bool.false_eq_true, n2, Bool.false_eq_true, if_false]
    simp only [b_first_drop_9, vE_lit, vE_var, vE_bin, vE_neg, vE_not, vE_and, vE_or, vE_cmp, vE_chain, vE_ite, vE_tup, vE_lst, vE_dnew, vE_dnewT, vE_ddisT, vE_dget, vE_fld, vE_new, vE_mcall, vS_fset, vE_idx, vE_slc, vE_call, vE_bf, vE_meth, vE_comp, vE_dcomp, vO_none, vO_some, vC_none, vC_some, vA_nil, vA_cons, vI_rng1, vI_rng2, vS_expr, vS_asg, vS_par, vS_ret, vS_ifs, vS_whl, vS_for, vS_raise, vS_pass, vS_brk, vS_cont, vB_nil, vB_cons, vI_each, vI_enum, vI_zip, vS_asgIx, vS_aug, each_tup, each_ref, enum_tup, enum_ref, zip_tup, zip_ref, aug_add, aug_sub, tg_name, tg_nil, tg_cons, o_add, o_addT, o_addL, o_addS, o_sub, o_mul, o_mulT, o_neB, o_isnotB, o_isB, o_fdiv, o_mod, o_pow, o_eqI, o_neI, o_lt, o_le, o_gt, o_ge, o_is, o_isnot, o_in, o_notin, f_abs, f_str, f_int, f_isi, f_len, f_tuple, f_list, asInt_int, ty_append, ty_extend, ty_update, ty_count, ty_index, Lit.d, truth_bl, truth_non, truth_int, truth_tup, seqD_tup, lenD_tup, tyD_bl, tyD_int, tyD_str, tyD_non, tyD_tup, List.getElem?_cons_zero, List.getElem?_cons_succ, List.set_cons_zero, List.set_cons_succ, Option.some.injEq, exists_eq_left', List.map_cons, List.map_nil, List.cons_append, List.nil_append, List.length_cons, List.length_nil, List.replicate, setAll, wipeD, if_true, if_false, Bool.false_eq_true]
    rw [set_dcT hg']
    refine ⟨key_ha _, by rw [met_lenD]; exact szl (by omega), ?_⟩
    rw [met_stor _ _ z]
    simp only [b_first_drop_10, vE_lit, vE_var, vE_bin, vE_neg, vE_not, vE_and, vE_or, vE_cmp, vE_chain, vE_ite, vE_tup, vE_lst, vE_dnew, vE_dnewT, vE_ddisT, vE_dget, vE_fld, vE_new, vE_mcall, vS_fset, vE_idx, vE_slc, vE_call, vE_bf, vE_meth, vE_comp, vE_dcomp, vO_none, vO_some, vC_none, vC_some, vA_nil, vA_cons, vI_rng1, vI_rng2, vS_expr, vS_asg, vS_par, vS_ret, vS_ifs, vS_whl, vS_for, vS_raise, vS_pass, vS_brk, vS_cont, vB_nil, vB_cons, vI_each, vI_enum, vI_zip, vS_asgIx, vS_aug, each_tup, each_ref, enum_tup, enum_ref, zip_tup, zip_ref, aug_add, aug_sub, tg_name, tg_nil, tg_cons, o_add, o_addT, o_addL, o_addS, o_sub, o_mul, o_mulT, o_neB, o_isnotB, o_isB, o_fdiv, o_mod, o_pow, o_eqI, o_neI, o_lt, o_le, o_gt, o_ge, o_is, o_isnot, o_in, o_notin, f_abs, f_str, f_int, f_isi, f_len, f_tuple, f_list, asInt_int, ty_append, ty_extend, ty_update, ty_count, ty_index, Lit.d, truth_bl, truth_non, truth_int, truth_tup, seqD_tup, lenD_tup, tyD_bl, tyD_int, tyD_str, tyD_non, tyD_tup, List.getElem?_cons_zero, List.getElem?_cons_succ, List.set_cons_zero, List.set_cons_succ, Option.some.injEq, exists_eq_left', List.map_cons, List.map_nil, List.cons_append, List.nil_append, List.length_cons, List.length_nil, List.replicate, setAll, wipeD, if_true, if_false, Bool.false_eq_true]
    simp only [b_first_drop_11, vE_lit, vE_var, vE_bin, vE_neg, vE_not, vE_and, vE_or, vE_cmp, vE_chain, vE_ite, vE_tup, vE_lst, vE_dnew, vE_dnewT, vE_ddisT, vE_dget, vE_fld, vE_new, vE_mcall, vS_fset, vE_idx, vE_slc, vE_call, vE_bf, vE_meth, vE_comp, vE_dcomp, vO_none, vO_some, vC_none, vC_some, vA_nil, vA_cons, vI_rng1, vI_rng2, vS_expr, vS_asg, vS_par, vS_ret, vS_ifs, vS_whl, vS_for, vS_raise, vS_pass, vS_brk, vS_cont, vB_nil, vB_cons, vI_each, vI_enum, vI_zip, vS_asgIx, vS_aug, each_tup, each_ref, enum_tup, enum_ref, zip_tup, zip_ref, aug_add, aug_sub, tg_name, tg_nil, tg_cons, o_add, o_addT, o_addL, o_addS, o_sub, o_mul, o_mulT, o_neB, o_isnotB, o_isB, o_fdiv, o_mod, o_pow, o_eqI, o_neI, o_lt, o_le, o_gt, o_ge, o_is, o_isnot, o_in, o_notin, f_abs, f_str, f_int, f_isi, f_len, f_tuple, f_list, asInt_int, ty_append, ty_extend, ty_update, ty_count, ty_index, Lit.d, truth_bl, truth_non, truth_int, truth_tup, seqD_tup, lenD_tup, tyD_bl, tyD_int, tyD_str, tyD_non, tyD_tup, List.getElem?_cons_zero, List.getElem?_cons_succ, List.set_cons_zero, List.set_cons_succ, Option.some.injEq, exists_eq_left', List.map_cons, List.map_nil, List.cons_append, List.nil_append, List.length_cons, List.length_nil, List.replicate, setAll, wipeD, if_true, if_false, Bool.false_eq_true]
    refine vF_of <| sp_comesE hb hR hs' oo fun h4 e4 => ?_
    simp only [tg_cons, tg_name, tg_nil]
    simp only [b_first_drop_12, vE_lit, vE_var, vE_bin, vE_neg, vE_not, vE_and, vE_or, vE_cmp, vE_chain, vE_ite, vE_tup, vE_lst, vE_dnew, vE_dnewT, vE_ddisT, vE_dget, vE_fld, vE_new, vE_mcall, vS_fset, vE_idx, vE_slc, vE_call, vE_bf, vE_meth, vE_comp, vE_dcomp, vO_none, vO_some, vC_none, vC_some, vA_nil, vA_cons, vI_rng1, vI_rng2, vS_expr, vS_asg, vS_par, vS_ret, vS_ifs, vS_whl, vS_for, vS_raise, vS_pass, vS_brk, vS_cont, vB_nil, vB_cons, vI_each, vI_enum, vI_zip, vS_asgIx, vS_aug, each_tup, each_ref, enum_tup, enum_ref, zip_tup, zip_ref, aug_add, aug_sub, tg_name, tg_nil, tg_cons, o_add, o_addT, o_addL, o_addS, o_sub, o_mul, o_mulT, o_neB, o_isnotB, o_isB, o_fdiv, o_mod, o_pow, o_eqI, o_neI, o_lt, o_le, o_gt, o_ge, o_is, o_isnot, o_in, o_notin, f_abs, f_str, f_int, f_isi, f_len, f_tuple, f_list, asInt_int, ty_append, ty_extend, ty_update, ty_count, ty_index, Lit.d, truth_bl, truth_non, truth_int, truth_tup, seqD_tup, lenD_tup, tyD_bl, tyD_int, tyD_str, tyD_non, tyD_tup, List.getElem?_cons_zero, List.getElem?_cons_succ, List.set_cons_zero, List.set_cons_succ, Option.some.injEq, exists_eq_left', List.map_cons, List.map_nil, List.cons_append, List.nil_append, List.length_cons, List.length_nil, List.replicate, setAll, wipeD, if_true, if_false, Bool.false_eq_true]
    rw [o_eqP (enc_pl.p _) (enc_pl.p _), enc_pl.dec]
    obtain ⟨_, _, _, oke, _⟩ := endS_runs hR hs' oo
    have ee : Ext h3 h4 := (e.wr hg).trans e4
    by_cases y : (endS b s o).1 = p
    · rw [if_pos y] at ef
      simp only [y, decide_true, truth_bl, Option.some.injEq, exists_eq_left', if_true]
      simp only [b_first_drop_13, vE_lit, vE_var, vE_bin, vE_neg, vE_not, vE_and, vE_or, vE_cmp, vE_chain, vE_ite, vE_tup, vE_lst, vE_dnew, vE_dnewT, vE_ddisT, vE_dget, vE_fld, vE_new, vE_mcall, vS_fset, vE_idx, vE_slc, vE_call, vE_bf, vE_meth, vE_comp, vE_dcomp, vO_none, vO_some, vC_none, vC_some, vA_nil, vA_cons, vI_rng1, vI_rng2, vS_expr, vS_asg, vS_par, vS_ret, vS_ifs, vS_whl, vS_for, vS_raise, vS_pass, vS_brk, vS_cont, vB_nil, vB_cons, vI_each, vI_enum, vI_zip, vS_asgIx, vS_aug, each_tup, each_ref, enum_tup, enum_ref, zip_tup, zip_ref, aug_add, aug_sub, tg_name, tg_nil, tg_cons, o_add, o_addT, o_addL, o_addS, o_sub, o_mul, o_mulT, o_neB, o_isnotB, o_isB, o_fdiv, o_mod, o_pow, o_eqI, o_neI, o_lt, o_le, o_gt, o_ge, o_is, o_isnot, o_in, o_notin, f_abs, f_str, f_int, f_isi, f_len, f_tuple, f_list, asInt_int, ty_append, ty_extend, ty_update, ty_count, ty_index, Lit.d, truth_bl, truth_non, truth_int, truth_tup, seqD_tup, lenD_tup, tyD_bl, tyD_int, tyD_str, tyD_non, tyD_tup, List.getElem?_cons_zero, List.getElem?_cons_succ, List.set_cons_zero, List.set_cons_succ, Option.some.injEq, exists_eq_left', List.map_cons, List.map_nil, List.cons_append, List.nil_append, List.length_cons, List.length_nil, List.replicate, setAll, wipeD, if_true, if_false, Bool.false_eq_true]
      rw [← ef] at q; exact q h4 (e0.trans ee)
    · rw [if_neg y] at ef
      simp only [y, decide_false, truth_bl, Option.some.injEq, exists_eq_left', Bool.false_eq_true, if_false, vB_nil]
      refine hk m _ _ (Nat.lt_succ_self m) ⟨met ++ [o], (endS b s o).2, some (plD (endS b s o).1), ?_, nd2, ok2, oke.2, by rw [List.length_append]; show m + (met.length + 1) = _; omega, ef, ee, ?_⟩
      · rw [List.length_append]; rfl
      · rw [e4 _ _ up_same]
end
end Mp
namespace Mp
section
def goFs (b : Bd) (r l : Nat) : List (PySem.Str × D) := [(("going_board" : PySem.Str), bdD b), (("going_rows" : PySem.Str), .ref r), (("going_level" : PySem.Str), .ref l)]
theorem go_b {b : Bd} {r l : Nat} : (goFs b r l).lookup ("going_board" : PySem.Str) = some (bdD b) := rfl
theorem go_r {b : Bd} {r l : Nat} : (goFs b r l).lookup ("going_rows" : PySem.Str) = some (.ref r) := rfl
theorem go_l {b : Bd} {r l : Nat} : (goFs b r l).lookup ("going_level" : PySem.Str) = some (.ref l) := rfl
theorem go_n {b : Bd} {r l : Nat} : (goFs b r l).lookup ("next_level" : PySem.Str) = none := rfl
theorem go_o {b : Bd} {r l : Nat} : (goFs b r l).lookup ("is_over" : PySem.Str) = none := rfl
theorem go_put {b : Bd} {r l l' : Nat} : putS ("going_level" : PySem.Str) (.ref l') (goFs b r l) = goFs b r l' := rfl
theorem go_put3 {b : Bd} {r l : Nat} : putS ("going_level" : PySem.Str) (.ref l) (putS ("going_rows" : PySem.Str) (.ref r) (putS ("going_board" : PySem.Str) (bdD b) [])) = goFs b r l := rfl
theorem fldE {c f : PySem.Str} {h : Hh} {a : Nat} {fs : List (PySem.Str × D)} {d : D} {Q : D → Prop} (e : h a = some (.obj c fs)) (l : fs.lookup f = some d) : (∃ a' fs' d', D.ref a = .ref a' ∧ h a' = some (.obj c fs') ∧ fs'.lookup f = some d' ∧ Q d') = Q d := by
  refine propext ⟨?_, fun q => ⟨a, fs, d, rfl, e, l, q⟩⟩
  rintro ⟨a', fs', d', e1, e2, e3, q⟩
  cases e1
  rw [e] at e2; cases e2
  rw [l] at e3; cases e3
  exact q
variable {b : Bd} {o0 : List Nat} {h : Hh} {X : PX} {Q : PV} {i : Nat}
structure GoAt (h : Hh) (a r l : Nat) (b : Bd) (o0 : List Nat) (i : Nat) : Prop where
  o : h a = some (.obj ("Going" : PySem.Str) (goFs b r l))
  r : h r = some (.dcT (rowsD (seqO b o0 i).1))
  l : h l = some (.lst (((seqO b o0 i).1.drop i).map fun e => haD e.1))
theorem sp_is_over {a r l : Nat} (g : GoAt h a r l b o0 i) (q : Q (.bl (decide ((seqO b o0 i).1.length ≤ i))) h) : wpF fn_Going_is_over [.ref a] h X Q := by
  refine vF_to ?_
  simp only [fn_Going_is_over, b_Going_is_over_1, vF_mk, vE_lit, vE_var, vE_bin, vE_neg, vE_not, vE_and, vE_or, vE_cmp, vE_chain, vE_ite, vE_tup, vE_lst, vE_dnew, vE_dnewT, vE_ddisT, vE_dget, vE_fld, vE_new, vE_mcall, vS_fset, vE_idx, vE_slc, vE_call, vE_bf, vE_meth, vE_comp, vE_dcomp, vO_none, vO_some, vC_none, vC_some, vA_nil, vA_cons, vI_rng1, vI_rng2, vS_expr, vS_asg, vS_par, vS_ret, vS_ifs, vS_whl, vS_for, vS_raise, vS_pass, vS_brk, vS_cont, vB_nil, vB_cons, vI_each, vI_enum, vI_zip, vS_asgIx, vS_aug, each_tup, each_ref, enum_tup, enum_ref, zip_tup, zip_ref, aug_add, aug_sub, tg_name, tg_nil, tg_cons, o_add, o_addT, o_addL, o_addS, o_sub, o_mul, o_mulT, o_neB, o_isnotB, o_isB, o_fdiv, o_mod, o_pow, o_eqI, o_neI, o_lt, o_le, o_gt, o_ge, o_is, o_isnot, o_in, o_notin, f_abs, f_str, f_int, f_isi, f_len, f_tuple, f_list, asInt_int, ty_append, ty_extend, ty_update, ty_count, ty_index, Lit.d, truth_bl, truth_non, truth_int, truth_tup, seqD_tup, lenD_tup, tyD_bl, tyD_int, tyD_str, tyD_non, tyD_tup, List.getElem?_cons_zero, List.getElem?_cons_succ, List.set_cons_zero, List.set_cons_succ, Option.some.injEq, exists_eq_left', List.map_cons, List.map_nil, List.cons_append, List.nil_append, List.length_cons, List.length_nil, List.replicate, setAll, wipeD, if_true, if_false, Bool.false_eq_true]
  refine ⟨trivial, ?_⟩
  rw [fldE g.o go_l]
  refine ⟨_, lenD_lst g.l, ?_⟩
  have : decide (((((seqO b o0 i).1.drop i).map fun e => haD e.1).length : Nat) = (0 : Int)) = decide ((seqO b o0 i).1.length ≤ i) := by
    rw [decide_eq_decide, List.length_map, List.length_drop]; omega
  rw [this]; exact q
theorem sp_new_going {hs : List Nat} {a : Nat} (ha : h a = some (.obj ("Going" : PySem.Str) [])) (q : ∀ r l h', h r = none → (∀ c x, c ≠ a → h c = some x → h' c = some x) → GoAt h' a r l b hs 0 → Q .non h') : wpF fn_Going___init__ [.ref a, bdD b, haD hs] h X Q := by
  refine vF_to ?_
  simp only [fn_Going___init__, b_Going___init___1, vF_mk, vE_lit, vE_var, vE_bin, vE_neg, vE_not, vE_and, vE_or, vE_cmp, vE_chain, vE_ite, vE_tup, vE_lst, vE_dnew, vE_dnewT, vE_ddisT, vE_dget, vE_fld, vE_new, vE_mcall, vS_fset, vE_idx, vE_slc, vE_call, vE_bf, vE_meth, vE_comp, vE_dcomp, vO_none, vO_some, vC_none, vC_some, vA_nil, vA_cons, vI_rng1, vI_rng2, vS_expr, vS_asg, vS_par, vS_ret, vS_ifs, vS_whl, vS_for, vS_raise, vS_pass, vS_brk, vS_cont, vB_nil, vB_cons, vI_each, vI_enum, vI_zip, vS_asgIx, vS_aug, each_tup, each_ref, enum_tup, enum_ref, zip_tup, zip_ref, aug_add, aug_sub, tg_name, tg_nil, tg_cons, o_add, o_addT, o_addL, o_addS, o_sub, o_mul, o_mulT, o_neB, o_isnotB, o_isB, o_fdiv, o_mod, o_pow, o_eqI, o_neI, o_lt, o_le, o_gt, o_ge, o_is, o_isnot, o_in, o_notin, f_abs, f_str, f_int, f_isi, f_len, f_tuple, f_list, asInt_int, ty_append, ty_extend, ty_update, ty_count, ty_index, Lit.d, truth_bl, truth_non, truth_int, truth_tup, seqD_tup, lenD_tup, tyD_bl, tyD_int, tyD_str, tyD_non, tyD_tup, List.getElem?_cons_zero, List.getElem?_cons_succ, List.set_cons_zero, List.set_cons_succ, Option.some.injEq, exists_eq_left', List.map_cons, List.map_nil, List.cons_append, List.nil_append, List.length_cons, List.length_nil, List.replicate, setAll, wipeD, if_true, if_false, Bool.false_eq_true, Nat.sub_self, List.replicate_zero]
  refine ⟨trivial, _, _, rfl, ha, by decide, ?_⟩
  simp only [b_Going___init___2, vE_lit, vE_var, vE_bin, vE_neg, vE_not, vE_and, vE_or, vE_cmp, vE_chain, vE_ite, vE_tup, vE_lst, vE_dnew, vE_dnewT, vE_ddisT, vE_dget, vE_fld, vE_new, vE_mcall, vS_fset, vE_idx, vE_slc, vE_call, vE_bf, vE_meth, vE_comp, vE_dcomp, vO_none, vO_some, vC_none, vC_some, vA_nil, vA_cons, vI_rng1, vI_rng2, vS_expr, vS_asg, vS_par, vS_ret, vS_ifs, vS_whl, vS_for, vS_raise, vS_pass, vS_brk, vS_cont, vB_nil, vB_cons, vI_each, vI_enum, vI_zip, vS_asgIx, vS_aug, each_tup, each_ref, enum_tup, enum_ref, zip_tup, zip_ref, aug_add, aug_sub, tg_name, tg_nil, tg_cons, o_add, o_addT, o_addL, o_addS, o_sub, o_mul, o_mulT, o_neB, o_isnotB, o_isB, o_fdiv, o_mod, o_pow, o_eqI, o_neI, o_lt, o_le, o_gt, o_ge, o_is, o_isnot, o_in, o_notin, f_abs, f_str, f_int, f_isi, f_len, f_tuple, f_list, asInt_int, ty_append, ty_extend, ty_update, ty_count, ty_index, Lit.d, truth_bl, truth_non, truth_int, truth_tup, seqD_tup, lenD_tup, tyD_bl, tyD_int, tyD_str, tyD_non, tyD_tup, List.getElem?_cons_zero, List.getElem?_cons_succ, List.set_cons_zero, List.set_cons_succ, Option.some.injEq, exists_eq_left', List.map_cons, List.map_nil, List.cons_append, List.nil_append, List.length_cons, List.length_nil, List.replicate, setAll, wipeD, if_true, if_false, Bool.false_eq_true]
  refine fun r hr => ⟨by decide, key_ha _, up_same, a, putS ("going_board" : PySem.Str) (bdD b) [], rfl, ?_, (by show 1 < 1000; decide), ?_⟩
  · have nra : a ≠ r := by
      rintro rfl; rw [up_same] at hr; cases hr
    rw [up_ne nra, up_ne nra, up_same]
  · simp only [b_Going___init___3, vE_lit, vE_var, vE_bin, vE_neg, vE_not, vE_and, vE_or, vE_cmp, vE_chain, vE_ite, vE_tup, vE_lst, vE_dnew, vE_dnewT, vE_ddisT, vE_dget, vE_fld, vE_new, vE_mcall, vS_fset, vE_idx, vE_slc, vE_call, vE_bf, vE_meth, vE_comp, vE_dcomp, vO_none, vO_some, vC_none, vC_some, vA_nil, vA_cons, vI_rng1, vI_rng2, vS_expr, vS_asg, vS_par, vS_ret, vS_ifs, vS_whl, vS_for, vS_raise, vS_pass, vS_brk, vS_cont, vB_nil, vB_cons, vI_each, vI_enum, vI_zip, vS_asgIx, vS_aug, each_tup, each_ref, enum_tup, enum_ref, zip_tup, zip_ref, aug_add, aug_sub, tg_name, tg_nil, tg_cons, o_add, o_addT, o_addL, o_addS, o_sub, o_mul, o_mulT, o_neB, o_isnotB, o_isB, o_fdiv, o_mod, o_pow, o_eqI, o_neI, o_lt, o_le, o_gt, o_ge, o_is, o_isnot, o_in, o_notin, f_abs, f_str, f_int, f_isi, f_len, f_tuple, f_list, asInt_int, ty_append, ty_extend, ty_update, ty_count, ty_index, Lit.d, truth_bl, truth_non, truth_int, truth_tup, seqD_tup, lenD_tup, tyD_bl, tyD_int, tyD_str, tyD_non, tyD_tup, List.getElem?_cons_zero, List.getElem?_cons_succ, List.set_cons_zero, List.set_cons_succ, Option.some.injEq, exists_eq_left', List.map_cons, List.map_nil, List.cons_append, List.nil_append, List.length_cons, List.length_nil, List.replicate, setAll, wipeD, if_true, if_false, Bool.false_eq_true]
    have nra : a ≠ r := by
      rintro rfl; rw [up_same] at hr; cases hr
    refine ⟨by decide, fun l hl => ⟨a, putS ("going_rows" : PySem.Str) (.ref r) (putS ("going_board" : PySem.Str) (bdD b) []), rfl, ?_, (by show 2 < 1000; decide), ?_⟩⟩
    · have nla : a ≠ l := by
        rintro rfl; rw [up_same] at hl; cases hl
      rw [up_ne nla, up_same]
    · have nla : a ≠ l := by
        rintro rfl; rw [up_same] at hl; cases hl
      have nlr : r ≠ l := by
        rintro rfl; rw [up_ne nra.symm, up_same] at hl; cases hl
      refine q r l _ (by rw [up_ne nra.symm] at hr; exact hr) ?_ ⟨?_, ?_, ?_⟩
      · intro c x hc e
        rw [up_ne hc]
        have hcr : c ≠ r := by
          rintro rfl; rw [up_ne hc, e] at hr; cases hr
        have hcl : c ≠ l := by
          rintro rfl
          rw [up_ne hc, up_ne hcr, up_ne hcr, up_ne hc, e] at hl; cases hl
        rw [up_ne hcl, up_ne hc, up_ne hcr, up_ne hcr, up_ne hc]; exact e
      · rw [up_same, go_put3]
      · rw [up_ne nra.symm, up_ne nlr, up_ne nra.symm, up_same]; rfl
      · rw [up_ne nla.symm, up_same]; rfl
theorem rows_le (hR : Rests b) (h0 : haOk b o0) : ∀ i, ∀ e ∈ (seqO b o0 i).1, e.2.length ≤ i
  | 0 => fun e he => by
    have : e = (o0, []) := List.mem_singleton.mp he
    rw [this]; exact Nat.zero_le _
  | i + 1 => fun e he => by
    have ih := rows_le hR h0 i
    cases q : (seqO b o0 i).1[i]? with
    | some here =>
      rw [seq_succ q] at he
      have := (BJ.all hR (seq_inv hR h0 i) q b.sw.length (Nat.le_refl _)).lb e he
      have := ih here (List.mem_of_getElem? q)
      omega
    | none =>
      rw [seq_stop (List.getElem?_eq_none_iff.mp q)] at he
      have := ih e he
      omega
noncomputable def fouD (b : Bd) (L : List (Ent × Nat)) : List D := L.map fun q => .tup [haD q.1.1, .int q.2, plD (endS b q.2 q.1.1).1]
theorem pairs_app (n : Nat) (L M : List Ent) : pairsO n (L ++ M) = pairsO n L ++ pairsO n M := by unfold pairsO; rw [List.flatMap_append]
theorem pairs_1 (n : Nat) (e : Ent) : pairsO n [e] = (List.range n).map fun s => (e, s) := by unfold pairsO; simp
theorem fou_app (L M : List (Ent × Nat)) : fouD b (L ++ M) = fouD b L ++ fouD b M := by unfold fouD; rw [List.map_append]
theorem pairs_len (n : Nat) (L : List Ent) : (pairsO n L).length = L.length * n := by
  induction L with
  | nil => simp [pairsO]
  | cons e L ih =>
    rw [show e :: L = [e] ++ L from rfl, pairs_app, List.length_append, ih, pairs_1, List.length_map, List.length_range, List.length_append, Nat.add_mul]
    simp
theorem sp_next {a r l : Nat} (hb : b.Ok 3 4 3) (hR : Rests b) (h0 : haOk b o0) (hm : manyL b.sw ≤ 1000) (g : GoAt h a r l b o0 i) (hi : i ≤ (seqO b o0 i).1.length)
    (q : ∀ f l' h', h f = none → GoAt h' a r l' b o0 (seqO b o0 i).1.length → h' f = some (.lst (fouD b (pairsO b.sw.length ((seqO b o0 i).1.drop i)))) → (∀ c x, c ≠ a → c ≠ r → h c = some x → h' c = some x) → Q (.ref f) h') : wpF fn_Going_next_level [.ref a] h X Q := by
  have hn := hb.s1
  have nar : a ≠ r := by
    rintro rfl; have := g.o; rw [g.r] at this; cases this
  have nal : a ≠ l := by
    rintro rfl; have := g.o; rw [g.l] at this; cases this
  have nlr : l ≠ r := by
    rintro rfl; have := g.l; rw [g.r] at this; cases this
  refine vF_to ?_
  simp only [fn_Going_next_level, b_Going_next_level_1, vF_mk, vE_lit, vE_var, vE_bin, vE_neg, vE_not, vE_and, vE_or, vE_cmp, vE_chain, vE_ite, vE_tup, vE_lst, vE_dnew, vE_dnewT, vE_ddisT, vE_dget, vE_fld, vE_new, vE_mcall, vS_fset, vE_idx, vE_slc, vE_call, vE_bf, vE_meth, vE_comp, vE_dcomp, vO_none, vO_some, vC_none, vC_some, vA_nil, vA_cons, vI_rng1, vI_rng2, vS_expr, vS_asg, vS_par, vS_ret, vS_ifs, vS_whl, vS_for, vS_raise, vS_pass, vS_brk, vS_cont, vB_nil, vB_cons, vI_each, vI_enum, vI_zip, vS_asgIx, vS_aug, each_tup, each_ref, enum_tup, enum_ref, zip_tup, zip_ref, aug_add, aug_sub, tg_name, tg_nil, tg_cons, o_add, o_addT, o_addL, o_addS, o_sub, o_mul, o_mulT, o_neB, o_isnotB, o_isB, o_fdiv, o_mod, o_pow, o_eqI, o_neI, o_lt, o_le, o_gt, o_ge, o_is, o_isnot, o_in, o_notin, f_abs, f_str, f_int, f_isi, f_len, f_tuple, f_list, asInt_int, ty_append, ty_extend, ty_update, ty_count, ty_index, Lit.d, truth_bl, truth_non, truth_int, truth_tup, seqD_tup, lenD_tup, tyD_bl, tyD_int, tyD_str, tyD_non, tyD_tup, List.getElem?_cons_zero, List.getElem?_cons_succ, List.set_cons_zero, List.set_cons_succ, Option.some.injEq, exists_eq_left', List.map_cons, List.map_nil, List.cons_append, List.nil_append, List.length_cons, List.length_nil, List.replicate, setAll, wipeD, if_true, if_false, Bool.false_eq_true]
  refine ⟨trivial, by decide, fun f hf => ⟨by decide, fun nl hnl => ⟨trivial, ?_⟩⟩⟩
  have nfr : f ≠ r := (ne_fresh g.r hf).symm
  have nnl : nl ≠ r := by
    rintro rfl; rw [up_ne nfr.symm, g.r] at hnl; cases hnl
  have nnf : nl ≠ f := by
    rintro rfl; rw [up_same] at hnl; cases hnl
  have hnl0 : h nl = none := by rw [up_ne nnf] at hnl; exact hnl
  have hLm := seq_len hR h0 i
  obtain ⟨L, hL⟩ : ∃ L, (seqO b o0 i).1.length = L := ⟨_, rfl⟩
  obtain ⟨E, hE⟩ : ∃ E, (seqO b o0 i).1.drop i = E := ⟨_, rfl⟩
  rw [hL] at q hi hLm
  have hEl : E.length = L - i := by rw [← hE, List.length_drop, hL]
  simp only [b_Going_next_level_2, vE_lit, vE_var, vE_bin, vE_neg, vE_not, vE_and, vE_or, vE_cmp, vE_chain, vE_ite, vE_tup, vE_lst, vE_dnew, vE_dnewT, vE_ddisT, vE_dget, vE_fld, vE_new, vE_mcall, vS_fset, vE_idx, vE_slc, vE_call, vE_bf, vE_meth, vE_comp, vE_dcomp, vO_none, vO_some, vC_none, vC_some, vA_nil, vA_cons, vI_rng1, vI_rng2, vS_expr, vS_asg, vS_par, vS_ret, vS_ifs, vS_whl, vS_for, vS_raise, vS_pass, vS_brk, vS_cont, vB_nil, vB_cons, vI_each, vI_enum, vI_zip, vS_asgIx, vS_aug, each_tup, each_ref, enum_tup, enum_ref, zip_tup, zip_ref, aug_add, aug_sub, tg_name, tg_nil, tg_cons, o_add, o_addT, o_addL, o_addS, o_sub, o_mul, o_mulT, o_neB, o_isnotB, o_isB, o_fdiv, o_mod, o_pow, o_eqI, o_neI, o_lt, o_le, o_gt, o_ge, o_is, o_isnot, o_in, o_notin, f_abs, f_str, f_int, f_isi, f_len, f_tuple, f_list, asInt_int, ty_append, ty_extend, ty_update, ty_count, ty_index, Lit.d, truth_bl, truth_non, truth_int, truth_tup, seqD_tup, lenD_tup, tyD_bl, tyD_int, tyD_str, tyD_non, tyD_tup, List.getElem?_cons_zero, List.getElem?_cons_succ, List.set_cons_zero, List.set_cons_succ, Option.some.injEq, exists_eq_left', List.map_cons, List.map_nil, List.cons_append, List.nil_append, List.length_cons, List.length_nil, List.replicate, setAll, wipeD, if_true, if_false, Bool.false_eq_true]
  have lk : ∀ {h' : Hh}, ExtB r h h' → h' a = some (.obj ("Going" : PySem.Str) (goFs b r l)) ∧ h' l = some (.lst (E.map fun e => haD e.1)) := fun e => ⟨e _ _ nar g.o, by rw [← hE]; exact e _ _ nlr g.l⟩
  have e00 : ExtB r h (up (up h f (.lst [])) nl (.lst [])) := ExtB.upF (ExtB.upF (ExtB.refl r h) hf) hnl0
  rw [fldE (lk e00).1 go_l]
  refine ⟨_, .inl (lk e00).2, ?_⟩
  refine itr_inv (fun t σ' h' => (∃ o1 o4 o5 o6, σ' = [some (.ref a), o1, some (.ref f), some (.ref nl), o4, o5, o6]) ∧ t ≤ E.length ∧ ExtB r h h' ∧ h' r = some (.dcT (rowsD (seqO b o0 (i + t)).1)) ∧ h' f = some (.lst (fouD b (pairsO b.sw.length (E.take t)))) ∧ h' nl = some (.lst (((seqO b o0 (i + t)).1.drop L).map fun e => haD e.1))) (fun _ _ h' ⟨_, _, e, _⟩ => fun z hz => by
        obtain rfl : z = (l, E.map fun e => haD e.1) := by simpa using hz
        exact .inl (lk e).2) ?_ ?_ ⟨⟨_, _, _, _, rfl⟩, Nat.zero_le _, e00, ?_, ?_, ?_⟩
  · rintro t x σ' h' k hx ⟨⟨o1, o4, o5, o6, rfl⟩, ht, e, hr, hf', hnl'⟩ hk
    rw [List.getElem?_map] at hx
    obtain ⟨here, hx', ex⟩ := Option.map_eq_some_iff.mp hx
    clear hx
    subst ex
    have hx := hx'
    have hlt := (List.getElem?_eq_some_iff.mp hx).1
    have hit : (seqO b o0 i).1[i + t]? = some here := by rw [← hE, List.getElem?_drop] at hx; exact hx
    have hit2 : (seqO b o0 (i + t)).1[i + t]? = some here := seq_get (by omega) hit
    have I := seq_inv hR h0 (i + t)
    have hlen := rows_le hR h0 (i + t) here (List.mem_of_getElem? hit2)
    have hL2 : L ≤ (seqO b o0 (i + t)).1.length := by
      obtain ⟨u, eu⟩ := preO (b := b) (o0 := o0) i t
      rw [eu, List.length_append, hL]; omega
    simp only [tg_name, vE_lit, vE_var, vE_bin, vE_neg, vE_not, vE_and, vE_or, vE_cmp, vE_chain, vE_ite, vE_tup, vE_lst, vE_dnew, vE_dnewT, vE_ddisT, vE_dget, vE_fld, vE_new, vE_mcall, vS_fset, vE_idx, vE_slc, vE_call, vE_bf, vE_meth, vE_comp, vE_dcomp, vO_none, vO_some, vC_none, vC_some, vA_nil, vA_cons, vI_rng1, vI_rng2, vS_expr, vS_asg, vS_par, vS_ret, vS_ifs, vS_whl, vS_for, vS_raise, vS_pass, vS_brk, vS_cont, vB_nil, vB_cons, vI_each, vI_enum, vI_zip, vS_asgIx, vS_aug, each_tup, each_ref, enum_tup, enum_ref, zip_tup, zip_ref, aug_add, aug_sub, tg_name, tg_nil, tg_cons, o_add, o_addT, o_addL, o_addS, o_sub, o_mul, o_mulT, o_neB, o_isnotB, o_isB, o_fdiv, o_mod, o_pow, o_eqI, o_neI, o_lt, o_le, o_gt, o_ge, o_is, o_isnot, o_in, o_notin, f_abs, f_str, f_int, f_isi, f_len, f_tuple, f_list, asInt_int, ty_append, ty_extend, ty_update, ty_count, ty_index, Lit.d, truth_bl, truth_non, truth_int, truth_tup, seqD_tup, lenD_tup, tyD_bl, tyD_int, tyD_str, tyD_non, tyD_tup, List.getElem?_cons_zero, List.getElem?_cons_succ, List.set_cons_zero, List.set_cons_succ, Option.some.injEq, exists_eq_left', List.map_cons, List.map_nil, List.cons_append, List.nil_append, List.length_cons, List.length_nil, List.replicate, setAll, wipeD, if_true, if_false, Bool.false_eq_true]
    simp only [b_Going_next_level_3, vE_lit, vE_var, vE_bin, vE_neg, vE_not, vE_and, vE_or, vE_cmp, vE_chain, vE_ite, vE_tup, vE_lst, vE_dnew, vE_dnewT, vE_ddisT, vE_dget, vE_fld, vE_new, vE_mcall, vS_fset, vE_idx, vE_slc, vE_call, vE_bf, vE_meth, vE_comp, vE_dcomp, vO_none, vO_some, vC_none, vC_some, vA_nil, vA_cons, vI_rng1, vI_rng2, vS_expr, vS_asg, vS_par, vS_ret, vS_ifs, vS_whl, vS_for, vS_raise, vS_pass, vS_brk, vS_cont, vB_nil, vB_cons, vI_each, vI_enum, vI_zip, vS_asgIx, vS_aug, each_tup, each_ref, enum_tup, enum_ref, zip_tup, zip_ref, aug_add, aug_sub, tg_name, tg_nil, tg_cons, o_add, o_addT, o_addL, o_addS, o_sub, o_mul, o_mulT, o_neB, o_isnotB, o_isB, o_fdiv, o_mod, o_pow, o_eqI, o_neI, o_lt, o_le, o_gt, o_ge, o_is, o_isnot, o_in, o_notin, f_abs, f_str, f_int, f_isi, f_len, f_tuple, f_list, asInt_int, ty_append, ty_extend, ty_update, ty_count, ty_index, Lit.d, truth_bl, truth_non, truth_int, truth_tup, seqD_tup, lenD_tup, tyD_bl, tyD_int, tyD_str, tyD_non, tyD_tup, List.getElem?_cons_zero, List.getElem?_cons_succ, List.set_cons_zero, List.set_cons_succ, Option.some.injEq, exists_eq_left', List.map_cons, List.map_nil, List.cons_append, List.nil_append, List.length_cons, List.length_nil, List.replicate, setAll, wipeD, if_true, if_false, Bool.false_eq_true]
    rw [fldE (lk e).1 go_b]
    simp only [bdD, ix_tup, atI_1, Option.some.injEq, exists_eq_left', o_add, o_addT, o_addL, o_addS, o_sub, o_mul, o_mulT, o_neB, o_isnotB, o_isB, o_fdiv, o_mod, o_pow, o_eqI, o_neI, o_lt, o_le, o_gt, o_ge, o_is, o_isnot, o_in, o_notin, f_abs, f_str, f_int, f_isi, f_len, f_tuple, f_list, asInt_int, ty_append, ty_extend, ty_update, ty_count, ty_index, Lit.d, truth_bl, truth_non, truth_int, truth_tup, seqD_tup, lenD_tup, tyD_bl, tyD_int, tyD_str, tyD_non, tyD_tup, List.getElem?_cons_zero, List.getElem?_cons_succ, List.set_cons_zero, List.set_cons_succ, Option.some.injEq, exists_eq_left', List.map_cons, List.map_nil, List.cons_append, List.nil_append, List.length_cons, List.length_nil, List.replicate, setAll, wipeD, if_true, if_false, Bool.false_eq_true, List.length_map]
    refine ⟨by omega, by omega, ?_⟩
    rw [Int.toNat_natCast]
    refine itr_inv (fun j σ' h' => (∃ o4 o5 o6, σ' = [some (.ref a), some (haD here.1), some (.ref f), some (.ref nl), o4, o5, o6]) ∧ j ≤ b.sw.length ∧ ExtB r h h' ∧ h' r = some (.dcT (rowsD (procJ b here (seqO b o0 (i + t)) j).1)) ∧ h' f = some (.lst (fouD b (pairsO b.sw.length (E.take t) ++ (List.range j).map fun s => (here, s)))) ∧ h' nl = some (.lst (((procJ b here (seqO b o0 (i + t)) j).1.drop L).map fun e => haD e.1))) (fun _ _ h' _ => GOk_nil h') ?_ ?_ ⟨⟨_, _, _, rfl⟩, Nat.zero_le _, e, hr, ?_, hnl'⟩
    · rintro j y σ' h' k2 hy ⟨⟨o4, o5, o6, rfl⟩, hj, e, hr, hf', hnl'⟩ hk2
      have hj' := (List.getElem?_eq_some_iff.mp hy).1
      rw [List.length_map, List.length_range] at hj'
      rw [List.getElem?_map, List.getElem?_range hj'] at hy
      obtain rfl : D.int (j : Nat) = y := Option.some.inj hy
      have J := BJ.all hR I hit2 j (by omega)
      have oh := (J.ok here (List.mem_of_getElem? J.hi)).1
      have J2 := BJ.all hR I hit2 (j + 1) (by omega)
      have lenJ : (procJ b here (seqO b o0 (i + t)) (j + 1)).1.length ≤ manyL b.sw := by
        rw [← List.length_map (f := (·.1))]
        exact met_len J2.nd fun o ho => by
          obtain ⟨e, he, rfl⟩ := List.mem_map.mp ho
          exact (J2.ok e he).1
      simp only [vE_lit, vE_var, vE_bin, vE_neg, vE_not, vE_and, vE_or, vE_cmp, vE_chain, vE_ite, vE_tup, vE_lst, vE_dnew, vE_dnewT, vE_ddisT, vE_dget, vE_fld, vE_new, vE_mcall, vS_fset, vE_idx, vE_slc, vE_call, vE_bf, vE_meth, vE_comp, vE_dcomp, vO_none, vO_some, vC_none, vC_some, vA_nil, vA_cons, vI_rng1, vI_rng2, vS_expr, vS_asg, vS_par, vS_ret, vS_ifs, vS_whl, vS_for, vS_raise, vS_pass, vS_brk, vS_cont, vB_nil, vB_cons, vI_each, vI_enum, vI_zip, vS_asgIx, vS_aug, each_tup, each_ref, enum_tup, enum_ref, zip_tup, zip_ref, aug_add, aug_sub, tg_name, tg_nil, tg_cons, o_add, o_addT, o_addL, o_addS, o_sub, o_mul, o_mulT, o_neB, o_isnotB, o_isB, o_fdiv, o_mod, o_pow, o_eqI, o_neI, o_lt, o_le, o_gt, o_ge, o_is, o_isnot, o_in, o_notin, f_abs, f_str, f_int, f_isi, f_len, f_tuple, f_list, asInt_int, ty_append, ty_extend, ty_update, ty_count, ty_index, Lit.d, truth_bl, truth_non, truth_int, truth_tup, seqD_tup, lenD_tup, tyD_bl, tyD_int, tyD_str, tyD_non, tyD_tup, List.getElem?_cons_zero, List.getElem?_cons_succ, List.set_cons_zero, List.set_cons_succ, Option.some.injEq, exists_eq_left', List.map_cons, List.map_nil, List.cons_append, List.nil_append, List.length_cons, List.length_nil, List.replicate, setAll, wipeD, if_true, if_false, Bool.false_eq_true]
      simp only [b_Going_next_level_4, vE_lit, vE_var, vE_bin, vE_neg, vE_not, vE_and, vE_or, vE_cmp, vE_chain, vE_ite, vE_tup, vE_lst, vE_dnew, vE_dnewT, vE_ddisT, vE_dget, vE_fld, vE_new, vE_mcall, vS_fset, vE_idx, vE_slc, vE_call, vE_bf, vE_meth, vE_comp, vE_dcomp, vO_none, vO_some, vC_none, vC_some, vA_nil, vA_cons, vI_rng1, vI_rng2, vS_expr, vS_asg, vS_par, vS_ret, vS_ifs, vS_whl, vS_for, vS_raise, vS_pass, vS_brk, vS_cont, vB_nil, vB_cons, vI_each, vI_enum, vI_zip, vS_asgIx, vS_aug, each_tup, each_ref, enum_tup, enum_ref, zip_tup, zip_ref, aug_add, aug_sub, tg_name, tg_nil, tg_cons, o_add, o_addT, o_addL, o_addS, o_sub, o_mul, o_mulT, o_neB, o_isnotB, o_isB, o_fdiv, o_mod, o_pow, o_eqI, o_neI, o_lt, o_le, o_gt, o_ge, o_is, o_isnot, o_in, o_notin, f_abs, f_str, f_int, f_isi, f_len, f_tuple, f_list, asInt_int, ty_append, ty_extend, ty_update, ty_count, ty_index, Lit.d, truth_bl, truth_non, truth_int, truth_tup, seqD_tup, lenD_tup, tyD_bl, tyD_int, tyD_str, tyD_non, tyD_tup, List.getElem?_cons_zero, List.getElem?_cons_succ, List.set_cons_zero, List.set_cons_succ, Option.some.injEq, exists_eq_left', List.map_cons, List.map_nil, List.cons_append, List.nil_append, List.length_cons, List.length_nil, List.replicate, setAll, wipeD, if_true, if_false, Bool.false_eq_true]
      rw [fldE (lk e).1 go_b]
      refine vF_of <| sp_comesE hb hR hj' oh fun h2 e2 => ?_
      simp only [tg_cons, tg_name, tg_nil, vE_lit, vE_var, vE_bin, vE_neg, vE_not, vE_and, vE_or, vE_cmp, vE_chain, vE_ite, vE_tup, vE_lst, vE_dnew, vE_dnewT, vE_ddisT, vE_dget, vE_fld, vE_new, vE_mcall, vS_fset, vE_idx, vE_slc, vE_call, vE_bf, vE_meth, vE_comp, vE_dcomp, vO_none, vO_some, vC_none, vC_some, vA_nil, vA_cons, vI_rng1, vI_rng2, vS_expr, vS_asg, vS_par, vS_ret, vS_ifs, vS_whl, vS_for, vS_raise, vS_pass, vS_brk, vS_cont, vB_nil, vB_cons, vI_each, vI_enum, vI_zip, vS_asgIx, vS_aug, each_tup, each_ref, enum_tup, enum_ref, zip_tup, zip_ref, aug_add, aug_sub, tg_name, tg_nil, tg_cons, o_add, o_addT, o_addL, o_addS, o_sub, o_mul, o_mulT, o_neB, o_isnotB, o_isB, o_fdiv, o_mod, o_pow, o_eqI, o_neI, o_lt, o_le, o_gt, o_ge, o_is, o_isnot, o_in, o_notin, f_abs, f_str, f_int, f_isi, f_len, f_tuple, f_list, asInt_int, ty_append, ty_extend, ty_update, ty_count, ty_index, Lit.d, truth_bl, truth_non, truth_int, truth_tup, seqD_tup, lenD_tup, tyD_bl, tyD_int, tyD_str, tyD_non, tyD_tup, List.getElem?_cons_zero, List.getElem?_cons_succ, List.set_cons_zero, List.set_cons_succ, Option.some.injEq, exists_eq_left', List.map_cons, List.map_nil, List.cons_append, List.nil_append, List.length_cons, List.length_nil, List.replicate, setAll, wipeD, if_true, if_false, Bool.false_eq_true]
      have hr2 := e2 _ _ hr
      have hf2 := e2 _ _ hf'
      have hnl2 := e2 _ _ hnl'
      simp only [b_Going_next_level_5, vE_lit, vE_var, vE_bin, vE_neg, vE_not, vE_and, vE_or, vE_cmp, vE_chain, vE_ite, vE_tup, vE_lst, vE_dnew, vE_dnewT, vE_ddisT, vE_dget, vE_fld, vE_new, vE_mcall, vS_fset, vE_idx, vE_slc, vE_call, vE_bf, vE_meth, vE_comp, vE_dcomp, vO_none, vO_some, vC_none, vC_some, vA_nil, vA_cons, vI_rng1, vI_rng2, vS_expr, vS_asg, vS_par, vS_ret, vS_ifs, vS_whl, vS_for, vS_raise, vS_pass, vS_brk, vS_cont, vB_nil, vB_cons, vI_each, vI_enum, vI_zip, vS_asgIx, vS_aug, each_tup, each_ref, enum_tup, enum_ref, zip_tup, zip_ref, aug_add, aug_sub, tg_name, tg_nil, tg_cons, o_add, o_addT, o_addL, o_addS, o_sub, o_mul, o_mulT, o_neB, o_isnotB, o_isB, o_fdiv, o_mod, o_pow, o_eqI, o_neI, o_lt, o_le, o_gt, o_ge, o_is, o_isnot, o_in, o_notin, f_abs, f_str, f_int, f_isi, f_len, f_tuple, f_list, asInt_int, ty_append, ty_extend, ty_update, ty_count, ty_index, Lit.d, truth_bl, truth_non, truth_int, truth_tup, seqD_tup, lenD_tup, tyD_bl, tyD_int, tyD_str, tyD_non, tyD_tup, List.getElem?_cons_zero, List.getElem?_cons_succ, List.set_cons_zero, List.set_cons_succ, Option.some.injEq, exists_eq_left', List.map_cons, List.map_nil, List.cons_append, List.nil_append, List.length_cons, List.length_nil, List.replicate, setAll, wipeD, if_true, if_false, Bool.false_eq_true, tyD_lst hf2, m_append]
      refine ⟨trivial, by decide, _, hf2, ?_, ?_⟩
      · unfold fouD
        rw [List.length_map, List.length_append, pairs_len, List.length_map, List.length_range, List.length_take]
        refine szl ?_
        have : min t E.length * b.sw.length ≤ 1000 * 4 := Nat.mul_le_mul (by omega) hn
        omega
      have hfe : fouD b (pairsO b.sw.length (E.take t) ++ (List.range j).map fun s => (here, s)) ++ [.tup [haD here.1, .int j, plD (endS b j here.1).1]] = fouD b (pairsO b.sw.length (E.take t) ++ (List.range (j + 1)).map fun s => (here, s)) := by
        rw [List.range_succ, List.map_append, ← List.append_assoc, fou_app _ (([j] : List Nat).map _)]; rfl
      rw [hfe]
      have e3 : ExtB r h (up h2 f (.lst (fouD b (pairsO b.sw.length (E.take t) ++ (List.range (j + 1)).map fun s => (here, s))))) := ExtB.upF (e.trans (.of e2)) hf
      have hr3 : up h2 f (.lst (fouD b (pairsO b.sw.length (E.take t) ++ (List.range (j + 1)).map fun s => (here, s)))) r = some (.dcT (rowsD (procJ b here (seqO b o0 (i + t)) j).1)) := by rw [up_ne nfr.symm]; exact hr2
      have hf3 : up h2 f (.lst (fouD b (pairsO b.sw.length (E.take t) ++ (List.range (j + 1)).map fun s => (here, s)))) f = some (.lst (fouD b (pairsO b.sw.length (E.take t) ++ (List.range (j + 1)).map fun s => (here, s)))) := up_same
      have hnl3 : up h2 f (.lst (fouD b (pairsO b.sw.length (E.take t) ++ (List.range (j + 1)).map fun s => (here, s)))) nl = some (.lst (((procJ b here (seqO b o0 (i + t)) j).1.drop L).map fun e => haD e.1)) := by rw [up_ne nnf]; exact hnl2
      generalize up h2 f (.lst (fouD b (pairsO b.sw.length (E.take t) ++ (List.range (j + 1)).map fun s => (here, s)))) = h3 at e3 hr3 hf3 hnl3 ⊢
      simp only [b_Going_next_level_6, vE_lit, vE_var, vE_bin, vE_neg, vE_not, vE_and, vE_or, vE_cmp, vE_chain, vE_ite, vE_tup, vE_lst, vE_dnew, vE_dnewT, vE_ddisT, vE_dget, vE_fld, vE_new, vE_mcall, vS_fset, vE_idx, vE_slc, vE_call, vE_bf, vE_meth, vE_comp, vE_dcomp, vO_none, vO_some, vC_none, vC_some, vA_nil, vA_cons, vI_rng1, vI_rng2, vS_expr, vS_asg, vS_par, vS_ret, vS_ifs, vS_whl, vS_for, vS_raise, vS_pass, vS_brk, vS_cont, vB_nil, vB_cons, vI_each, vI_enum, vI_zip, vS_asgIx, vS_aug, each_tup, each_ref, enum_tup, enum_ref, zip_tup, zip_ref, aug_add, aug_sub, tg_name, tg_nil, tg_cons, o_add, o_addT, o_addL, o_addS, o_sub, o_mul, o_mulT, o_neB, o_isnotB, o_isB, o_fdiv, o_mod, o_pow, o_eqI, o_neI, o_lt, o_le, o_gt, o_ge, o_is, o_isnot, o_in, o_notin, f_abs, f_str, f_int, f_isi, f_len, f_tuple, f_list, asInt_int, ty_append, ty_extend, ty_update, ty_count, ty_index, Lit.d, truth_bl, truth_non, truth_int, truth_tup, seqD_tup, lenD_tup, tyD_bl, tyD_int, tyD_str, tyD_non, tyD_tup, List.getElem?_cons_zero, List.getElem?_cons_succ, List.set_cons_zero, List.set_cons_succ, Option.some.injEq, exists_eq_left', List.map_cons, List.map_nil, List.cons_append, List.nil_append, List.length_cons, List.length_nil, List.replicate, setAll, wipeD, if_true, if_false, Bool.false_eq_true]
      rw [fldE (lk e3).1 go_r, mem_dcT hr3, rows_any]
      refine ⟨key_ha _, ?_⟩
      simp only [truth_bl, Option.some.injEq, exists_eq_left', Bool.not_eq_true', decide_eq_false_iff_not]
      have ep := procJ_succ b here (seqO b o0 (i + t)) j
      have ep1 : (procJ b here (seqO b o0 (i + t)) (j + 1)).1 = if (endS b j here.1).2 ∈ (procJ b here (seqO b o0 (i + t)) j).1.map (·.1) then (procJ b here (seqO b o0 (i + t)) j).1 else (procJ b here (seqO b o0 (i + t)) j).1 ++ [((endS b j here.1).2, here.2 ++ [j])] := by rw [ep]; rfl
      by_cases z : (endS b j here.1).2 ∈ (procJ b here (seqO b o0 (i + t)) j).1.map (·.1)
      · rw [if_pos z] at ep1
        simp only [z, not_true_eq_false, if_false, vB_nil]
        exact hk2 _ _ ⟨⟨_, _, _, rfl⟩, hj', e3, by rw [ep1]; exact hr3, hf3, by rw [ep1]; exact hnl3⟩
      · rw [if_neg z] at ep1
        rw [ep1, List.length_append] at lenJ
        have lenJ : (procJ b here (seqO b o0 (i + t)) j).1.length + 1 ≤ manyL b.sw := lenJ
        have lenR := rows_len (procJ b here (seqO b o0 (i + t)) j).1
        simp only [z, not_false_eq_true, if_true]
        simp only [b_Going_next_level_7, vE_lit, vE_var, vE_bin, vE_neg, vE_not, vE_and, vE_or, vE_cmp, vE_chain, vE_ite, vE_tup, vE_lst, vE_dnew, vE_dnewT, vE_ddisT, vE_dget, vE_fld, vE_new, vE_mcall, vS_fset, vE_idx, vE_slc, vE_call, vE_bf, vE_meth, vE_comp, vE_dcomp, vO_none, vO_some, vC_none, vC_some, vA_nil, vA_cons, vI_rng1, vI_rng2, vS_expr, vS_asg, vS_par, vS_ret, vS_ifs, vS_whl, vS_for, vS_raise, vS_pass, vS_brk, vS_cont, vB_nil, vB_cons, vI_each, vI_enum, vI_zip, vS_asgIx, vS_aug, each_tup, each_ref, enum_tup, enum_ref, zip_tup, zip_ref, aug_add, aug_sub, tg_name, tg_nil, tg_cons, o_add, o_addT, o_addL, o_addS, o_sub, o_mul, o_mulT, o_neB, o_isnotB, o_isB, o_fdiv, o_mod, o_pow, o_eqI, o_neI, o_lt, o_le, o_gt, o_ge, o_is, o_isnot, o_in, o_notin, f_abs, f_str, f_int, f_isi, f_len, f_tuple, f_list, asInt_int, ty_append, ty_extend, ty_update, ty_count, ty_index, Lit.d, truth_bl, truth_non, truth_int, truth_tup, seqD_tup, lenD_tup, tyD_bl, tyD_int, tyD_str, tyD_non, tyD_tup, List.getElem?_cons_zero, List.getElem?_cons_succ, List.set_cons_zero, List.set_cons_succ, Option.some.injEq, exists_eq_left', List.map_cons, List.map_nil, List.cons_append, List.nil_append, List.length_cons, List.length_nil, List.replicate, setAll, wipeD, if_true, if_false, Bool.false_eq_true]
        rw [fldE (lk e3).1 go_r]
        refine ⟨_, lenD_dcT hr3, ?_⟩
        have n5 : decide (((rowsD (procJ b here (seqO b o0 (i + t)) j).1).length : Nat) = (5000 : Int)) = false := decide_eq_false (by omega)
        simp only [o_add, o_addT, o_addL, o_addS, o_sub, o_mul, o_mulT, o_neB, o_isnotB, o_isB, o_fdiv, o_mod, o_pow, o_eqI, o_neI, o_lt, o_le, o_gt, o_ge, o_is, o_isnot, o_in, o_notin, f_abs, f_str, f_int, f_isi, f_len, f_tuple, f_list, asInt_int, ty_append, ty_extend, ty_update, ty_count, ty_index, Lit.d, truth_bl, truth_non, truth_int, truth_tup, seqD_tup, lenD_tup, tyD_bl, tyD_int, tyD_str, tyD_non, tyD_tup, List.getElem?_cons_zero, List.getElem?_cons_succ, List.set_cons_zero, List.set_cons_succ, Option.some.injEq, exists_eq_left', List.map_cons, List.map_nil, List.cons_append, List.nil_append, List.length_cons, List.length_nil, List.replicate, setAll, wipeD, if_true, if_false, Bool.false_eq_true, n5, truth_bl, Option.some.injEq, exists_eq_left', Bool.false_eq_true, if_false, vB_nil]
        simp only [b_Going_next_level_9, vE_lit, vE_var, vE_bin, vE_neg, vE_not, vE_and, vE_or, vE_cmp, vE_chain, vE_ite, vE_tup, vE_lst, vE_dnew, vE_dnewT, vE_ddisT, vE_dget, vE_fld, vE_new, vE_mcall, vS_fset, vE_idx, vE_slc, vE_call, vE_bf, vE_meth, vE_comp, vE_dcomp, vO_none, vO_some, vC_none, vC_some, vA_nil, vA_cons, vI_rng1, vI_rng2, vS_expr, vS_asg, vS_par, vS_ret, vS_ifs, vS_whl, vS_for, vS_raise, vS_pass, vS_brk, vS_cont, vB_nil, vB_cons, vI_each, vI_enum, vI_zip, vS_asgIx, vS_aug, each_tup, each_ref, enum_tup, enum_ref, zip_tup, zip_ref, aug_add, aug_sub, tg_name, tg_nil, tg_cons, o_add, o_addT, o_addL, o_addS, o_sub, o_mul, o_mulT, o_neB, o_isnotB, o_isB, o_fdiv, o_mod, o_pow, o_eqI, o_neI, o_lt, o_le, o_gt, o_ge, o_is, o_isnot, o_in, o_notin, f_abs, f_str, f_int, f_isi, f_len, f_tuple, f_list, asInt_int, ty_append, ty_extend, ty_update, ty_count, ty_index, Lit.d, truth_bl, truth_non, truth_int, truth_tup, seqD_tup, lenD_tup, tyD_bl, tyD_int, tyD_str, tyD_non, tyD_tup, List.getElem?_cons_zero, List.getElem?_cons_succ, List.set_cons_zero, List.set_cons_succ, Option.some.injEq, exists_eq_left', List.map_cons, List.map_nil, List.cons_append, List.nil_append, List.length_cons, List.length_nil, List.replicate, setAll, wipeD, if_true, if_false, Bool.false_eq_true]
        rw [fldE (lk e3).1 go_r, oix_dcT hr3, rows_look, lookup_nodup J.nd (List.mem_of_getElem? J.hi)]
        refine ⟨key_ha _, _, rfl, ?_⟩
        have hadd : ∀ Q : PV, here.2.length + 1 ≤ sz → Q (haD (here.2 ++ [j])) h3 → opB .add (haD here.2) (.tup [.int (j : Nat)]) h3 Q := fun Q hl q => by
          unfold haD
          rw [o_addT]
          refine ⟨by rw [List.length_map]; exact hl, ?_⟩
          unfold haD at q
          rw [List.map_append] at q
          exact q
        refine ⟨by decide, hadd _ (szl2 (by omega)) ?_⟩
        rw [fldE (lk e3).1 go_r, set_dcT hr3]
        refine ⟨key_ha _, by rw [lenR]; exact szl (by omega), ?_⟩
        rw [rows_stor _ _ _ z, ← ep1]
        simp only [b_Going_next_level_10, vE_lit, vE_var, vE_bin, vE_neg, vE_not, vE_and, vE_or, vE_cmp, vE_chain, vE_ite, vE_tup, vE_lst, vE_dnew, vE_dnewT, vE_ddisT, vE_dget, vE_fld, vE_new, vE_mcall, vS_fset, vE_idx, vE_slc, vE_call, vE_bf, vE_meth, vE_comp, vE_dcomp, vO_none, vO_some, vC_none, vC_some, vA_nil, vA_cons, vI_rng1, vI_rng2, vS_expr, vS_asg, vS_par, vS_ret, vS_ifs, vS_whl, vS_for, vS_raise, vS_pass, vS_brk, vS_cont, vB_nil, vB_cons, vI_each, vI_enum, vI_zip, vS_asgIx, vS_aug, each_tup, each_ref, enum_tup, enum_ref, zip_tup, zip_ref, aug_add, aug_sub, tg_name, tg_nil, tg_cons, o_add, o_addT, o_addL, o_addS, o_sub, o_mul, o_mulT, o_neB, o_isnotB, o_isB, o_fdiv, o_mod, o_pow, o_eqI, o_neI, o_lt, o_le, o_gt, o_ge, o_is, o_isnot, o_in, o_notin, f_abs, f_str, f_int, f_isi, f_len, f_tuple, f_list, asInt_int, ty_append, ty_extend, ty_update, ty_count, ty_index, Lit.d, truth_bl, truth_non, truth_int, truth_tup, seqD_tup, lenD_tup, tyD_bl, tyD_int, tyD_str, tyD_non, tyD_tup, List.getElem?_cons_zero, List.getElem?_cons_succ, List.set_cons_zero, List.set_cons_succ, Option.some.injEq, exists_eq_left', List.map_cons, List.map_nil, List.cons_append, List.nil_append, List.length_cons, List.length_nil, List.replicate, setAll, wipeD, if_true, if_false, Bool.false_eq_true]
        have hnl4 : up h3 r (.dcT (rowsD (procJ b here (seqO b o0 (i + t)) (j + 1)).1)) nl = some (.lst (((procJ b here (seqO b o0 (i + t)) j).1.drop L).map fun e => haD e.1)) := by rw [up_ne nnl]; exact hnl3
        simp only [tyD_lst hnl4, m_append]
        refine ⟨trivial, _, hnl4, by rw [List.length_map, List.length_drop]; exact szl (by omega), ?_⟩
        have hd : (((procJ b here (seqO b o0 (i + t)) j).1.drop L).map fun e => haD e.1) ++ [haD (endS b j here.1).2] = ((procJ b here (seqO b o0 (i + t)) (j + 1)).1.drop L).map fun e => haD e.1 := by
          obtain ⟨u, eu⟩ := preJ b here (seqO b o0 (i + t)) j
          rw [ep1, List.drop_append_of_le_length (by rw [eu, List.length_append]; omega), List.map_append]; rfl
        rw [hd]
        refine hk2 _ _ ⟨⟨_, _, _, rfl⟩, hj', ?_, ?_, ?_, up_same⟩
        · exact ExtB.upF (e3.trans ExtB.up) hnl0
        · rw [up_ne nnl.symm, up_same]
        · rw [up_ne nnf.symm, up_ne nfr]; exact hf3
    · rintro σ' h' ⟨⟨o4, o5, o6, rfl⟩, hj, e, hr, hf', hnl'⟩
      rw [List.length_map, List.length_range] at *
      have es := seq_succ (b := b) (o0 := o0) hit2
      refine hk _ _ ⟨⟨_, _, _, _, rfl⟩, hlt, e, by rw [← Nat.add_assoc, es]; exact hr, ?_, by rw [← Nat.add_assoc, es]; exact hnl'⟩
      have : E.take (t + 1) = E.take t ++ [here] := by rw [List.take_add_one, hx]; rfl
      rw [this, pairs_app, pairs_1]; exact hf'
    · rw [List.range_zero, List.map_nil, List.append_nil]; exact hf'
  · rintro σ' h' ⟨⟨o1, o4, o5, o6, rfl⟩, ht, e, hr, hf', hnl'⟩
    rw [List.length_map] at *
    rw [show i + E.length = L by omega] at hr hnl'
    rw [List.take_length] at hf'
    simp only [b_Going_next_level_11, vE_lit, vE_var, vE_bin, vE_neg, vE_not, vE_and, vE_or, vE_cmp, vE_chain, vE_ite, vE_tup, vE_lst, vE_dnew, vE_dnewT, vE_ddisT, vE_dget, vE_fld, vE_new, vE_mcall, vS_fset, vE_idx, vE_slc, vE_call, vE_bf, vE_meth, vE_comp, vE_dcomp, vO_none, vO_some, vC_none, vC_some, vA_nil, vA_cons, vI_rng1, vI_rng2, vS_expr, vS_asg, vS_par, vS_ret, vS_ifs, vS_whl, vS_for, vS_raise, vS_pass, vS_brk, vS_cont, vB_nil, vB_cons, vI_each, vI_enum, vI_zip, vS_asgIx, vS_aug, each_tup, each_ref, enum_tup, enum_ref, zip_tup, zip_ref, aug_add, aug_sub, tg_name, tg_nil, tg_cons, o_add, o_addT, o_addL, o_addS, o_sub, o_mul, o_mulT, o_neB, o_isnotB, o_isB, o_fdiv, o_mod, o_pow, o_eqI, o_neI, o_lt, o_le, o_gt, o_ge, o_is, o_isnot, o_in, o_notin, f_abs, f_str, f_int, f_isi, f_len, f_tuple, f_list, asInt_int, ty_append, ty_extend, ty_update, ty_count, ty_index, Lit.d, truth_bl, truth_non, truth_int, truth_tup, seqD_tup, lenD_tup, tyD_bl, tyD_int, tyD_str, tyD_non, tyD_tup, List.getElem?_cons_zero, List.getElem?_cons_succ, List.set_cons_zero, List.set_cons_succ, Option.some.injEq, exists_eq_left', List.map_cons, List.map_nil, List.cons_append, List.nil_append, List.length_cons, List.length_nil, List.replicate, setAll, wipeD, if_true, if_false, Bool.false_eq_true]
    refine ⟨_, _, rfl, (lk e).1, (by show 3 < 1000; decide), ?_⟩
    rw [go_put]
    simp only [b_Going_next_level_12, vE_lit, vE_var, vE_bin, vE_neg, vE_not, vE_and, vE_or, vE_cmp, vE_chain, vE_ite, vE_tup, vE_lst, vE_dnew, vE_dnewT, vE_ddisT, vE_dget, vE_fld, vE_new, vE_mcall, vS_fset, vE_idx, vE_slc, vE_call, vE_bf, vE_meth, vE_comp, vE_dcomp, vO_none, vO_some, vC_none, vC_some, vA_nil, vA_cons, vI_rng1, vI_rng2, vS_expr, vS_asg, vS_par, vS_ret, vS_ifs, vS_whl, vS_for, vS_raise, vS_pass, vS_brk, vS_cont, vB_nil, vB_cons, vI_each, vI_enum, vI_zip, vS_asgIx, vS_aug, each_tup, each_ref, enum_tup, enum_ref, zip_tup, zip_ref, aug_add, aug_sub, tg_name, tg_nil, tg_cons, o_add, o_addT, o_addL, o_addS, o_sub, o_mul, o_mulT, o_neB, o_isnotB, o_isB, o_fdiv, o_mod, o_pow, o_eqI, o_neI, o_lt, o_le, o_gt, o_ge, o_is, o_isnot, o_in, o_notin, f_abs, f_str, f_int, f_isi, f_len, f_tuple, f_list, asInt_int, ty_append, ty_extend, ty_update, ty_count, ty_index, Lit.d, truth_bl, truth_non, truth_int, truth_tup, seqD_tup, lenD_tup, tyD_bl, tyD_int, tyD_str, tyD_non, tyD_tup, List.getElem?_cons_zero, List.getElem?_cons_succ, List.set_cons_zero, List.set_cons_succ, Option.some.injEq, exists_eq_left', List.map_cons, List.map_nil, List.cons_append, List.nil_append, List.length_cons, List.length_nil, List.replicate, setAll, wipeD, if_true, if_false, Bool.false_eq_true]
    have naf : a ≠ f := ne_fresh g.o hf
    have nan : a ≠ nl := ne_fresh g.o hnl0
    refine q f nl _ hf ⟨up_same, by rw [up_ne nar.symm]; exact hr, by rw [up_ne nan.symm]; exact hnl'⟩ ?_ ?_
    · rw [up_ne naf.symm, hE]; exact hf'
    · intro c x c1 c2 hx
      rw [up_ne c1]; exact e _ _ c2 hx
  · rw [up_ne nnl.symm, up_ne nfr.symm]; exact g.r
  · rw [up_ne nnf.symm, up_same]; rfl
  · rw [up_same, Nat.add_zero, ← hL, List.drop_length]; rfl
end
end Mp
namespace Mp
def optH (x : Option (List Nat)) : D := (x.map haD).getD .non
section
variable {b : Bd} {o0 : List Nat} {h : Hh} {X : PX} {Q : PV} {i : Nat} {p : Bool × Nat} {hs : List Nat}
theorem take_drop (hR : Rests b) : (seqO b o0 (seqO b o0 i).1.length).1.take (seqO b o0 i).1.length = (seqO b o0 i).1 ∨ (seqO b o0 i).1.length < i := by
  by_cases z : i ≤ (seqO b o0 i).1.length
  · left
    obtain ⟨u, eu⟩ := preO (b := b) (o0 := o0) i ((seqO b o0 i).1.length - i)
    rw [show i + ((seqO b o0 i).1.length - i) = (seqO b o0 i).1.length by omega] at eu
    rw [eu, List.take_left]
  · right; omega
theorem take_len (hi : i ≤ (seqO b o0 i).1.length) : (seqO b o0 (seqO b o0 i).1.length).1.take (seqO b o0 i).1.length = (seqO b o0 i).1 := by
  obtain ⟨u, eu⟩ := preO (b := b) (o0 := o0) i ((seqO b o0 i).1.length - i)
  rw [show i + ((seqO b o0 i).1.length - i) = (seqO b o0 i).1.length by omega] at eu
  rw [eu, List.take_left]
theorem len_len (hi : i ≤ (seqO b o0 i).1.length) : (seqO b o0 i).1.length ≤ (seqO b o0 (seqO b o0 i).1.length).1.length := by
  obtain ⟨u, eu⟩ := preO (b := b) (o0 := o0) i ((seqO b o0 i).1.length - i)
  rw [show i + ((seqO b o0 i).1.length - i) = (seqO b o0 i).1.length by omega] at eu
  rw [eu, List.length_append]; omega
theorem fin_pre (hi : i ≤ manyL b.sw) : ∃ u, (fin b o0).1 = (seqO b o0 i).1 ++ u := by
  obtain ⟨u, eu⟩ := preO (b := b) (o0 := o0) i (manyL b.sw - i)
  rw [show i + (manyL b.sw - i) = manyL b.sw by omega] at eu
  exact ⟨u, eu⟩
theorem find_none {L : List (Ent × Nat)} : findP b p L = none ↔ ∀ q ∈ L, (endS b q.2 q.1.1).1 ≠ p := by
  unfold findP
  rw [Option.map_eq_none_iff, List.find?_eq_none]
  constructor
  · intro h q hq e; exact h q hq (decide_eq_true e)
  · intro h q hq e; exact h q hq (of_decide_eq_true e)
theorem fin_found (hR : Rests b) (h0 : haOk b o0) {r : List Nat} (hi : i ≤ manyL b.sw) (h1 : findP b p (pairsO b.sw.length ((seqO b o0 i).1.take i)) = none) (h2 : findP b p (pairsO b.sw.length ((seqO b o0 i).1.drop i)) = some r) : (fin b o0).2.lookup p = some r := by
  obtain ⟨u, eu⟩ := fin_pre (o0 := o0) hi
  rw [(fin_inv hR h0).fe, List.take_of_length_le (fin_len hR h0), eu, pairs_app, find_app]
  conv => lhs; rw [← List.take_append_drop i (seqO b o0 i).1, pairs_app, find_app, h1, h2]
  rfl
theorem fin_none (hR : Rests b) (h0 : haOk b o0) (hi : (seqO b o0 i).1.length ≤ i) (h1 : findP b p (pairsO b.sw.length ((seqO b o0 i).1.take i)) = none) : (fin b o0).2.lookup p = none := by
  rw [← seq_fin hR h0 hi, (seq_inv hR h0 i).fe]; exact h1
theorem fin_look (hR : Rests b) (h0 : haOk b o0) {o : List Nat} (hi : i ≤ manyL b.sw) (h : (seqO b o0 i).1.length ≤ i ∨ o ∈ (seqO b o0 i).1.map (·.1)) : (seqO b o0 i).1.lookup o = (fin b o0).1.lookup o := by
  rcases h with h | h
  · rw [seq_fin hR h0 h]
  · obtain ⟨e, he, rfl⟩ := List.mem_map.mp h
    obtain ⟨u, eu⟩ := fin_pre (o0 := o0) hi
    rw [lookup_nodup (k := e.1) (v := e.2) (seq_inv hR h0 i).nd he, lookup_nodup (k := e.1) (v := e.2) (fin_inv hR h0).nd (by rw [eu]; exact List.mem_append_left _ he)]
theorem addH {r : List Nat} {j : Nat} (hl : r.length + 1 ≤ sz) (q : Q (haD (r ++ [j])) h) : opB .add (haD r) (.tup [.int (j : Nat)]) h Q := by
  unfold haD
  rw [o_addT]
  refine ⟨by rw [List.length_map]; exact hl, ?_⟩
  unfold haD at q
  rw [List.map_append] at q
  exact q
theorem new_go {a : Nat} (ha : h a = none) (q : ∀ r l h', h r = none → Ext h h' → GoAt h' a r l b hs 0 → Q .non h') : vF fn_Going___init__ [.ref a, bdD b, haD hs] (up h a (.obj ("Going" : PySem.Str) [])) X Q := by
  refine vF_of <| sp_new_going up_same fun r l h' hr e g => q r l h' ?_ (fun c x hx => ?_) g
  · by_cases z : r = a
    · rw [z, up_same] at hr; cases hr
    · rw [up_ne z] at hr; exact hr
  · have n := ne_fresh hx ha
    exact e c x n (by rw [up_ne n]; exact hx)
theorem sp_shortest_row (hb : b.Ok 3 4 3) (hR : Rests b) (ho : haOk b hs) (hm : manyL b.sw ≤ 1000) (okp : plOk b.cups b.sw.length p) (hr : isRest b p) (q : ∀ h', Ext h h' → Q (optH ((fin b hs).2.lookup p)) h') : wpF fn_shortest_row [bdD b, haD hs, plD p] h X Q := by
  have hw : b.Ok 4 24 4 := hb.wide (by decide) (by decide) (by decide)
  refine vF_to ?_
  simp only [fn_shortest_row, b_shortest_row_1, vF_mk, vE_lit, vE_var, vE_bin, vE_neg, vE_not, vE_and, vE_or, vE_cmp, vE_chain, vE_ite, vE_tup, vE_lst, vE_dnew, vE_dnewT, vE_ddisT, vE_dget, vE_fld, vE_new, vE_mcall, vS_fset, vE_idx, vE_slc, vE_call, vE_bf, vE_meth, vE_comp, vE_dcomp, vO_none, vO_some, vC_none, vC_some, vA_nil, vA_cons, vI_rng1, vI_rng2, vS_expr, vS_asg, vS_par, vS_ret, vS_ifs, vS_whl, vS_for, vS_raise, vS_pass, vS_brk, vS_cont, vB_nil, vB_cons, vI_each, vI_enum, vI_zip, vS_asgIx, vS_aug, each_tup, each_ref, enum_tup, enum_ref, zip_tup, zip_ref, aug_add, aug_sub, tg_name, tg_nil, tg_cons, o_add, o_addT, o_addL, o_addS, o_sub, o_mul, o_mulT, o_neB, o_isnotB, o_isB, o_fdiv, o_mod, o_pow, o_eqI, o_neI, o_lt, o_le, o_gt, o_ge, o_is, o_isnot, o_in, o_notin, f_abs, f_str, f_int, f_isi, f_len, f_tuple, f_list, asInt_int, ty_append, ty_extend, ty_update, ty_count, ty_index, Lit.d, truth_bl, truth_non, truth_int, truth_tup, seqD_tup, lenD_tup, tyD_bl, tyD_int, tyD_str, tyD_non, tyD_tup, List.getElem?_cons_zero, List.getElem?_cons_succ, List.set_cons_zero, List.set_cons_succ, Option.some.injEq, exists_eq_left', List.map_cons, List.map_nil, List.cons_append, List.nil_append, List.length_cons, List.length_nil, List.replicate, setAll, wipeD, if_true, if_false, Bool.false_eq_true]
  refine ⟨trivial, vF_of <| sp_check_board hw fun h1 e1 => ?_⟩
  simp only [b_shortest_row_2, vE_lit, vE_var, vE_bin, vE_neg, vE_not, vE_and, vE_or, vE_cmp, vE_chain, vE_ite, vE_tup, vE_lst, vE_dnew, vE_dnewT, vE_ddisT, vE_dget, vE_fld, vE_new, vE_mcall, vS_fset, vE_idx, vE_slc, vE_call, vE_bf, vE_meth, vE_comp, vE_dcomp, vO_none, vO_some, vC_none, vC_some, vA_nil, vA_cons, vI_rng1, vI_rng2, vS_expr, vS_asg, vS_par, vS_ret, vS_ifs, vS_whl, vS_for, vS_raise, vS_pass, vS_brk, vS_cont, vB_nil, vB_cons, vI_each, vI_enum, vI_zip, vS_asgIx, vS_aug, each_tup, each_ref, enum_tup, enum_ref, zip_tup, zip_ref, aug_add, aug_sub, tg_name, tg_nil, tg_cons, o_add, o_addT, o_addL, o_addS, o_sub, o_mul, o_mulT, o_neB, o_isnotB, o_isB, o_fdiv, o_mod, o_pow, o_eqI, o_neI, o_lt, o_le, o_gt, o_ge, o_is, o_isnot, o_in, o_notin, f_abs, f_str, f_int, f_isi, f_len, f_tuple, f_list, asInt_int, ty_append, ty_extend, ty_update, ty_count, ty_index, Lit.d, truth_bl, truth_non, truth_int, truth_tup, seqD_tup, lenD_tup, tyD_bl, tyD_int, tyD_str, tyD_non, tyD_tup, List.getElem?_cons_zero, List.getElem?_cons_succ, List.set_cons_zero, List.set_cons_succ, Option.some.injEq, exists_eq_left', List.map_cons, List.map_nil, List.cons_append, List.nil_append, List.length_cons, List.length_nil, List.replicate, setAll, wipeD, if_true, if_false, Bool.false_eq_true]
  refine vF_of <| sp_check_hands hw ho fun h2 e2 => ?_
  simp only [b_shortest_row_3, vE_lit, vE_var, vE_bin, vE_neg, vE_not, vE_and, vE_or, vE_cmp, vE_chain, vE_ite, vE_tup, vE_lst, vE_dnew, vE_dnewT, vE_ddisT, vE_dget, vE_fld, vE_new, vE_mcall, vS_fset, vE_idx, vE_slc, vE_call, vE_bf, vE_meth, vE_comp, vE_dcomp, vO_none, vO_some, vC_none, vC_some, vA_nil, vA_cons, vI_rng1, vI_rng2, vS_expr, vS_asg, vS_par, vS_ret, vS_ifs, vS_whl, vS_for, vS_raise, vS_pass, vS_brk, vS_cont, vB_nil, vB_cons, vI_each, vI_enum, vI_zip, vS_asgIx, vS_aug, each_tup, each_ref, enum_tup, enum_ref, zip_tup, zip_ref, aug_add, aug_sub, tg_name, tg_nil, tg_cons, o_add, o_addT, o_addL, o_addS, o_sub, o_mul, o_mulT, o_neB, o_isnotB, o_isB, o_fdiv, o_mod, o_pow, o_eqI, o_neI, o_lt, o_le, o_gt, o_ge, o_is, o_isnot, o_in, o_notin, f_abs, f_str, f_int, f_isi, f_len, f_tuple, f_list, asInt_int, ty_append, ty_extend, ty_update, ty_count, ty_index, Lit.d, truth_bl, truth_non, truth_int, truth_tup, seqD_tup, lenD_tup, tyD_bl, tyD_int, tyD_str, tyD_non, tyD_tup, List.getElem?_cons_zero, List.getElem?_cons_succ, List.set_cons_zero, List.set_cons_succ, Option.some.injEq, exists_eq_left', List.map_cons, List.map_nil, List.cons_append, List.nil_append, List.length_cons, List.length_nil, List.replicate, setAll, wipeD, if_true, if_false, Bool.false_eq_true]
  refine vF_of <| sp_check_rest hb (by decide) (by decide) (by decide) okp hr fun h3 e3 => ?_
  have e0 := (e1.trans e2).trans e3
  simp only [b_shortest_row_4, vE_lit, vE_var, vE_bin, vE_neg, vE_not, vE_and, vE_or, vE_cmp, vE_chain, vE_ite, vE_tup, vE_lst, vE_dnew, vE_dnewT, vE_ddisT, vE_dget, vE_fld, vE_new, vE_mcall, vS_fset, vE_idx, vE_slc, vE_call, vE_bf, vE_meth, vE_comp, vE_dcomp, vO_none, vO_some, vC_none, vC_some, vA_nil, vA_cons, vI_rng1, vI_rng2, vS_expr, vS_asg, vS_par, vS_ret, vS_ifs, vS_whl, vS_for, vS_raise, vS_pass, vS_brk, vS_cont, vB_nil, vB_cons, vI_each, vI_enum, vI_zip, vS_asgIx, vS_aug, each_tup, each_ref, enum_tup, enum_ref, zip_tup, zip_ref, aug_add, aug_sub, tg_name, tg_nil, tg_cons, o_add, o_addT, o_addL, o_addS, o_sub, o_mul, o_mulT, o_neB, o_isnotB, o_isB, o_fdiv, o_mod, o_pow, o_eqI, o_neI, o_lt, o_le, o_gt, o_ge, o_is, o_isnot, o_in, o_notin, f_abs, f_str, f_int, f_isi, f_len, f_tuple, f_list, asInt_int, ty_append, ty_extend, ty_update, ty_count, ty_index, Lit.d, truth_bl, truth_non, truth_int, truth_tup, seqD_tup, lenD_tup, tyD_bl, tyD_int, tyD_str, tyD_non, tyD_tup, List.getElem?_cons_zero, List.getElem?_cons_succ, List.set_cons_zero, List.set_cons_succ, Option.some.injEq, exists_eq_left', List.map_cons, List.map_nil, List.cons_append, List.nil_append, List.length_cons, List.length_nil, List.replicate, setAll, wipeD, if_true, if_false, Bool.false_eq_true]
  refine fun a ha => new_go ha fun r l h4 hr4 e4 g4 => ⟨rfl, ?_⟩
  simp only [b_shortest_row_5, vE_lit, vE_var, vE_bin, vE_neg, vE_not, vE_and, vE_or, vE_cmp, vE_chain, vE_ite, vE_tup, vE_lst, vE_dnew, vE_dnewT, vE_ddisT, vE_dget, vE_fld, vE_new, vE_mcall, vS_fset, vE_idx, vE_slc, vE_call, vE_bf, vE_meth, vE_comp, vE_dcomp, vO_none, vO_some, vC_none, vC_some, vA_nil, vA_cons, vI_rng1, vI_rng2, vS_expr, vS_asg, vS_par, vS_ret, vS_ifs, vS_whl, vS_for, vS_raise, vS_pass, vS_brk, vS_cont, vB_nil, vB_cons, vI_each, vI_enum, vI_zip, vS_asgIx, vS_aug, each_tup, each_ref, enum_tup, enum_ref, zip_tup, zip_ref, aug_add, aug_sub, tg_name, tg_nil, tg_cons, o_add, o_addT, o_addL, o_addS, o_sub, o_mul, o_mulT, o_neB, o_isnotB, o_isB, o_fdiv, o_mod, o_pow, o_eqI, o_neI, o_lt, o_le, o_gt, o_ge, o_is, o_isnot, o_in, o_notin, f_abs, f_str, f_int, f_isi, f_len, f_tuple, f_list, asInt_int, ty_append, ty_extend, ty_update, ty_count, ty_index, Lit.d, truth_bl, truth_non, truth_int, truth_tup, seqD_tup, lenD_tup, tyD_bl, tyD_int, tyD_str, tyD_non, tyD_tup, List.getElem?_cons_zero, List.getElem?_cons_succ, List.set_cons_zero, List.set_cons_succ, Option.some.injEq, exists_eq_left', List.map_cons, List.map_nil, List.cons_append, List.nil_append, List.length_cons, List.length_nil, List.replicate, setAll, wipeD, if_true, if_false, Bool.false_eq_true]
  refine whl_inv (fun m σ' h' => ∃ i l o4 o5 o6, σ' = [some (bdD b), some (haD hs), some (plD p), some (.ref a), o4, o5, o6] ∧ GoAt h' a r l b hs i ∧ i ≤ (seqO b hs i).1.length ∧ m + i = manyL b.sw ∧ findP b p (pairsO b.sw.length ((seqO b hs i).1.take i)) = none ∧ Ext h3 h') ?_ (m := manyL b.sw) ⟨0, l, _, _, _, rfl, g4, Nat.zero_le _, rfl, rfl, e4⟩
  rintro m σ' h' k ⟨i, l, o4, o5, o6, rfl, g, hi, hmi, hnone, e⟩ hk
  simp only [vE_lit, vE_var, vE_bin, vE_neg, vE_not, vE_and, vE_or, vE_cmp, vE_chain, vE_ite, vE_tup, vE_lst, vE_dnew, vE_dnewT, vE_ddisT, vE_dget, vE_fld, vE_new, vE_mcall, vS_fset, vE_idx, vE_slc, vE_call, vE_bf, vE_meth, vE_comp, vE_dcomp, vO_none, vO_some, vC_none, vC_some, vA_nil, vA_cons, vI_rng1, vI_rng2, vS_expr, vS_asg, vS_par, vS_ret, vS_ifs, vS_whl, vS_for, vS_raise, vS_pass, vS_brk, vS_cont, vB_nil, vB_cons, vI_each, vI_enum, vI_zip, vS_asgIx, vS_aug, each_tup, each_ref, enum_tup, enum_ref, zip_tup, zip_ref, aug_add, aug_sub, tg_name, tg_nil, tg_cons, o_add, o_addT, o_addL, o_addS, o_sub, o_mul, o_mulT, o_neB, o_isnotB, o_isB, o_fdiv, o_mod, o_pow, o_eqI, o_neI, o_lt, o_le, o_gt, o_ge, o_is, o_isnot, o_in, o_notin, f_abs, f_str, f_int, f_isi, f_len, f_tuple, f_list, asInt_int, ty_append, ty_extend, ty_update, ty_count, ty_index, Lit.d, truth_bl, truth_non, truth_int, truth_tup, seqD_tup, lenD_tup, tyD_bl, tyD_int, tyD_str, tyD_non, tyD_tup, List.getElem?_cons_zero, List.getElem?_cons_succ, List.set_cons_zero, List.set_cons_succ, Option.some.injEq, exists_eq_left', List.map_cons, List.map_nil, List.cons_append, List.nil_append, List.length_cons, List.length_nil, List.replicate, setAll, wipeD, if_true, if_false, Bool.false_eq_true]
  refine ⟨_, _, rfl, g.o, go_o, vF_of <| sp_is_over g ?_⟩
  simp only [truth_bl, Option.some.injEq, exists_eq_left', Bool.not_eq_true', decide_eq_false_iff_not, Nat.not_le]
  by_cases z : (seqO b hs i).1.length ≤ i
  · simp only [Nat.not_lt.mpr z, if_false]
    simp only [b_shortest_row_9, vE_lit, vE_var, vE_bin, vE_neg, vE_not, vE_and, vE_or, vE_cmp, vE_chain, vE_ite, vE_tup, vE_lst, vE_dnew, vE_dnewT, vE_ddisT, vE_dget, vE_fld, vE_new, vE_mcall, vS_fset, vE_idx, vE_slc, vE_call, vE_bf, vE_meth, vE_comp, vE_dcomp, vO_none, vO_some, vC_none, vC_some, vA_nil, vA_cons, vI_rng1, vI_rng2, vS_expr, vS_asg, vS_par, vS_ret, vS_ifs, vS_whl, vS_for, vS_raise, vS_pass, vS_brk, vS_cont, vB_nil, vB_cons, vI_each, vI_enum, vI_zip, vS_asgIx, vS_aug, each_tup, each_ref, enum_tup, enum_ref, zip_tup, zip_ref, aug_add, aug_sub, tg_name, tg_nil, tg_cons, o_add, o_addT, o_addL, o_addS, o_sub, o_mul, o_mulT, o_neB, o_isnotB, o_isB, o_fdiv, o_mod, o_pow, o_eqI, o_neI, o_lt, o_le, o_gt, o_ge, o_is, o_isnot, o_in, o_notin, f_abs, f_str, f_int, f_isi, f_len, f_tuple, f_list, asInt_int, ty_append, ty_extend, ty_update, ty_count, ty_index, Lit.d, truth_bl, truth_non, truth_int, truth_tup, seqD_tup, lenD_tup, tyD_bl, tyD_int, tyD_str, tyD_non, tyD_tup, List.getElem?_cons_zero, List.getElem?_cons_succ, List.set_cons_zero, List.set_cons_succ, Option.some.injEq, exists_eq_left', List.map_cons, List.map_nil, List.cons_append, List.nil_append, List.length_cons, List.length_nil, List.replicate, setAll, wipeD, if_true, if_false, Bool.false_eq_true]
    have := fin_none hR ho z hnone
    rw [this] at q
    exact q h' (e0.trans e)
  · have z' := Nat.lt_of_not_le z
    have hLm := seq_len hR ho i
    simp only [z', if_true]
    simp only [b_shortest_row_6, vE_lit, vE_var, vE_bin, vE_neg, vE_not, vE_and, vE_or, vE_cmp, vE_chain, vE_ite, vE_tup, vE_lst, vE_dnew, vE_dnewT, vE_ddisT, vE_dget, vE_fld, vE_new, vE_mcall, vS_fset, vE_idx, vE_slc, vE_call, vE_bf, vE_meth, vE_comp, vE_dcomp, vO_none, vO_some, vC_none, vC_some, vA_nil, vA_cons, vI_rng1, vI_rng2, vS_expr, vS_asg, vS_par, vS_ret, vS_ifs, vS_whl, vS_for, vS_raise, vS_pass, vS_brk, vS_cont, vB_nil, vB_cons, vI_each, vI_enum, vI_zip, vS_asgIx, vS_aug, each_tup, each_ref, enum_tup, enum_ref, zip_tup, zip_ref, aug_add, aug_sub, tg_name, tg_nil, tg_cons, o_add, o_addT, o_addL, o_addS, o_sub, o_mul, o_mulT, o_neB, o_isnotB, o_isB, o_fdiv, o_mod, o_pow, o_eqI, o_neI, o_lt, o_le, o_gt, o_ge, o_is, o_isnot, o_in, o_notin, f_abs, f_str, f_int, f_isi, f_len, f_tuple, f_list, asInt_int, ty_append, ty_extend, ty_update, ty_count, ty_index, Lit.d, truth_bl, truth_non, truth_int, truth_tup, seqD_tup, lenD_tup, tyD_bl, tyD_int, tyD_str, tyD_non, tyD_tup, List.getElem?_cons_zero, List.getElem?_cons_succ, List.set_cons_zero, List.set_cons_succ, Option.some.injEq, exists_eq_left', List.map_cons, List.map_nil, List.cons_append, List.nil_append, List.length_cons, List.length_nil, List.replicate, setAll, wipeD, if_true, if_false, Bool.false_eq_true]
    refine ⟨_, _, rfl, g.o, go_n, vF_of <| sp_next hb hR ho hm g hi fun f l' h5 hf g5 hf5 e5 => ?_⟩
    have hE : Ext h3 h5 := fun c x hx => by
      have n1 := ne_fresh hx ha
      have n2 := ne_fresh hx hr4
      exact e5 c x n1 n2 (e c x hx)
    simp only [vE_lit, vE_var, vE_bin, vE_neg, vE_not, vE_and, vE_or, vE_cmp, vE_chain, vE_ite, vE_tup, vE_lst, vE_dnew, vE_dnewT, vE_ddisT, vE_dget, vE_fld, vE_new, vE_mcall, vS_fset, vE_idx, vE_slc, vE_call, vE_bf, vE_meth, vE_comp, vE_dcomp, vO_none, vO_some, vC_none, vC_some, vA_nil, vA_cons, vI_rng1, vI_rng2, vS_expr, vS_asg, vS_par, vS_ret, vS_ifs, vS_whl, vS_for, vS_raise, vS_pass, vS_brk, vS_cont, vB_nil, vB_cons, vI_each, vI_enum, vI_zip, vS_asgIx, vS_aug, each_tup, each_ref, enum_tup, enum_ref, zip_tup, zip_ref, aug_add, aug_sub, tg_name, tg_nil, tg_cons, o_add, o_addT, o_addL, o_addS, o_sub, o_mul, o_mulT, o_neB, o_isnotB, o_isB, o_fdiv, o_mod, o_pow, o_eqI, o_neI, o_lt, o_le, o_gt, o_ge, o_is, o_isnot, o_in, o_notin, f_abs, f_str, f_int, f_isi, f_len, f_tuple, f_list, asInt_int, ty_append, ty_extend, ty_update, ty_count, ty_index, Lit.d, truth_bl, truth_non, truth_int, truth_tup, seqD_tup, lenD_tup, tyD_bl, tyD_int, tyD_str, tyD_non, tyD_tup, List.getElem?_cons_zero, List.getElem?_cons_succ, List.set_cons_zero, List.set_cons_succ, Option.some.injEq, exists_eq_left', List.map_cons, List.map_nil, List.cons_append, List.nil_append, List.length_cons, List.length_nil, List.replicate, setAll, wipeD, if_true, if_false, Bool.false_eq_true]
    refine ⟨_, .inl hf5, ?_⟩
    obtain ⟨P, hP⟩ : ∃ P, pairsO b.sw.length ((seqO b hs i).1.drop i) = P := ⟨_, rfl⟩
    rw [hP] at hf5 ⊢
    refine itr_inv (fun t σ' h' => (∃ o4 o5 o6, σ' = [some (bdD b), some (haD hs), some (plD p), some (.ref a), o4, o5, o6]) ∧ h' = h5 ∧ findP b p (P.take t) = none) (fun _ _ h' ⟨_, e, _⟩ => fun z hz => by
        obtain rfl : z = (f, fouD b P) := by simpa using hz
        rw [e]; exact .inl hf5) ?_ ?_ ⟨⟨_, _, _, rfl⟩, rfl, rfl⟩
    · rintro t x σ' h' k2 hx ⟨⟨o4, o5, o6, rfl⟩, rfl, hn⟩ hk2
      unfold fouD at hx
      rw [List.getElem?_map] at hx
      obtain ⟨⟨en, s⟩, hx', ex⟩ := Option.map_eq_some_iff.mp hx
      subst ex
      simp only [tg_cons, tg_name, tg_nil, vE_lit, vE_var, vE_bin, vE_neg, vE_not, vE_and, vE_or, vE_cmp, vE_chain, vE_ite, vE_tup, vE_lst, vE_dnew, vE_dnewT, vE_ddisT, vE_dget, vE_fld, vE_new, vE_mcall, vS_fset, vE_idx, vE_slc, vE_call, vE_bf, vE_meth, vE_comp, vE_dcomp, vO_none, vO_some, vC_none, vC_some, vA_nil, vA_cons, vI_rng1, vI_rng2, vS_expr, vS_asg, vS_par, vS_ret, vS_ifs, vS_whl, vS_for, vS_raise, vS_pass, vS_brk, vS_cont, vB_nil, vB_cons, vI_each, vI_enum, vI_zip, vS_asgIx, vS_aug, each_tup, each_ref, enum_tup, enum_ref, zip_tup, zip_ref, aug_add, aug_sub, tg_name, tg_nil, tg_cons, o_add, o_addT, o_addL, o_addS, o_sub, o_mul, o_mulT, o_neB, o_isnotB, o_isB, o_fdiv, o_mod, o_pow, o_eqI, o_neI, o_lt, o_le, o_gt, o_ge, o_is, o_isnot, o_in, o_notin, f_abs, f_str, f_int, f_isi, f_len, f_tuple, f_list, asInt_int, ty_append, ty_extend, ty_update, ty_count, ty_index, Lit.d, truth_bl, truth_non, truth_int, truth_tup, seqD_tup, lenD_tup, tyD_bl, tyD_int, tyD_str, tyD_non, tyD_tup, List.getElem?_cons_zero, List.getElem?_cons_succ, List.set_cons_zero, List.set_cons_succ, Option.some.injEq, exists_eq_left', List.map_cons, List.map_nil, List.cons_append, List.nil_append, List.length_cons, List.length_nil, List.replicate, setAll, wipeD, if_true, if_false, Bool.false_eq_true]
      simp only [b_shortest_row_7, vE_lit, vE_var, vE_bin, vE_neg, vE_not, vE_and, vE_or, vE_cmp, vE_chain, vE_ite, vE_tup, vE_lst, vE_dnew, vE_dnewT, vE_ddisT, vE_dget, vE_fld, vE_new, vE_mcall, vS_fset, vE_idx, vE_slc, vE_call, vE_bf, vE_meth, vE_comp, vE_dcomp, vO_none, vO_some, vC_none, vC_some, vA_nil, vA_cons, vI_rng1, vI_rng2, vS_expr, vS_asg, vS_par, vS_ret, vS_ifs, vS_whl, vS_for, vS_raise, vS_pass, vS_brk, vS_cont, vB_nil, vB_cons, vI_each, vI_enum, vI_zip, vS_asgIx, vS_aug, each_tup, each_ref, enum_tup, enum_ref, zip_tup, zip_ref, aug_add, aug_sub, tg_name, tg_nil, tg_cons, o_add, o_addT, o_addL, o_addS, o_sub, o_mul, o_mulT, o_neB, o_isnotB, o_isB, o_fdiv, o_mod, o_pow, o_eqI, o_neI, o_lt, o_le, o_gt, o_ge, o_is, o_isnot, o_in, o_notin, f_abs, f_str, f_int, f_isi, f_len, f_tuple, f_list, asInt_int, ty_append, ty_extend, ty_update, ty_count, ty_index, Lit.d, truth_bl, truth_non, truth_int, truth_tup, seqD_tup, lenD_tup, tyD_bl, tyD_int, tyD_str, tyD_non, tyD_tup, List.getElem?_cons_zero, List.getElem?_cons_succ, List.set_cons_zero, List.set_cons_succ, Option.some.injEq, exists_eq_left', List.map_cons, List.map_nil, List.cons_append, List.nil_append, List.length_cons, List.length_nil, List.replicate, setAll, wipeD, if_true, if_false, Bool.false_eq_true]
      rw [o_eqP (enc_pl.p _) (enc_pl.p _), enc_pl.dec]
      simp only [truth_bl, Option.some.injEq, exists_eq_left', decide_eq_true_eq]
      by_cases y : (endS b s en.1).1 = p
      · have hfound : findP b p P = some (en.2 ++ [s]) := by
          have hl := (List.getElem?_eq_some_iff.mp hx').1
          have : P = P.take t ++ ((en, s) :: P.drop (t + 1)) := by
            have h1 := List.take_append_drop t P
            rw [List.drop_eq_getElem_cons hl, (List.getElem?_eq_some_iff.mp hx').2] at h1
            exact h1.symm
          rw [this, find_app, hn]
          unfold findP
          simp [y]
        have ff := fin_found hR ho (by omega) hnone (by rw [hP]; exact hfound)
        simp only [y, if_true]
        simp only [b_shortest_row_8, vE_lit, vE_var, vE_bin, vE_neg, vE_not, vE_and, vE_or, vE_cmp, vE_chain, vE_ite, vE_tup, vE_lst, vE_dnew, vE_dnewT, vE_ddisT, vE_dget, vE_fld, vE_new, vE_mcall, vS_fset, vE_idx, vE_slc, vE_call, vE_bf, vE_meth, vE_comp, vE_dcomp, vO_none, vO_some, vC_none, vC_some, vA_nil, vA_cons, vI_rng1, vI_rng2, vS_expr, vS_asg, vS_par, vS_ret, vS_ifs, vS_whl, vS_for, vS_raise, vS_pass, vS_brk, vS_cont, vB_nil, vB_cons, vI_each, vI_enum, vI_zip, vS_asgIx, vS_aug, each_tup, each_ref, enum_tup, enum_ref, zip_tup, zip_ref, aug_add, aug_sub, tg_name, tg_nil, tg_cons, o_add, o_addT, o_addL, o_addS, o_sub, o_mul, o_mulT, o_neB, o_isnotB, o_isB, o_fdiv, o_mod, o_pow, o_eqI, o_neI, o_lt, o_le, o_gt, o_ge, o_is, o_isnot, o_in, o_notin, f_abs, f_str, f_int, f_isi, f_len, f_tuple, f_list, asInt_int, ty_append, ty_extend, ty_update, ty_count, ty_index, Lit.d, truth_bl, truth_non, truth_int, truth_tup, seqD_tup, lenD_tup, tyD_bl, tyD_int, tyD_str, tyD_non, tyD_tup, List.getElem?_cons_zero, List.getElem?_cons_succ, List.set_cons_zero, List.set_cons_succ, Option.some.injEq, exists_eq_left', List.map_cons, List.map_nil, List.cons_append, List.nil_append, List.length_cons, List.length_nil, List.replicate, setAll, wipeD, if_true, if_false, Bool.false_eq_true]
        have hmem : en ∈ (seqO b hs i).1 := by
          have := List.mem_of_getElem? hx'
          rw [← hP] at this
          unfold pairsO at this
          obtain ⟨e', h1, h2⟩ := List.mem_flatMap.mp this
          obtain ⟨s', h3, h4⟩ := List.mem_map.mp h2
          cases h4
          exact List.mem_of_mem_drop h1
        have hmem2 : en ∈ (seqO b hs (seqO b hs i).1.length).1 := by
          obtain ⟨m', hm'⟩ := List.getElem?_of_mem hmem
          exact List.mem_of_getElem? (seq_get hi hm')
        have hrl := rows_le hR ho i en hmem
        rw [fldE g5.o go_r, oix_dcT g5.r, rows_look, lookup_nodup (k := en.1) (v := en.2) (seq_inv hR ho _).nd hmem2]
        refine ⟨key_ha _, _, rfl, by decide, ?_⟩
        rw [ff] at q
        exact addH (szl2 (by omega)) (q _ (e0.trans hE))
      · simp only [y, if_false, vB_nil]
        refine hk2 _ _ ⟨⟨_, _, _, rfl⟩, rfl, ?_⟩
        rw [List.take_add_one, hx', find_app, hn]
        show findP b p [(en, s)] = none
        unfold findP
        simp [y]
    · rintro σ' h' ⟨⟨o4, o5, o6, rfl⟩, rfl, hn⟩
      have el : (fouD b P).length = P.length := by unfold fouD; rw [List.length_map]
      rw [el, List.take_length] at hn
      refine hk (manyL b.sw - (seqO b hs i).1.length) _ _ (by omega) ⟨(seqO b hs i).1.length, l', _, _, _, rfl, g5, len_len hi, by omega, ?_, hE⟩
      rw [take_len hi]
      conv => lhs; rw [← List.take_append_drop i (seqO b hs i).1, pairs_app, find_app, hnone, hP, hn]
      rfl
theorem sp_row_to {ot : List Nat} (hb : b.Ok 3 4 3) (hR : Rests b) (ho : haOk b hs) (hm : manyL b.sw ≤ 1000) (oto : haOk b ot) (q : ∀ h', Ext h h' → Q (optH ((fin b hs).1.lookup ot)) h') : wpF fn_row_to [bdD b, haD hs, haD ot] h X Q := by
  have hw : b.Ok 4 24 4 := hb.wide (by decide) (by decide) (by decide)
  refine vF_to ?_
  simp only [fn_row_to, b_row_to_1, vF_mk, vE_lit, vE_var, vE_bin, vE_neg, vE_not, vE_and, vE_or, vE_cmp, vE_chain, vE_ite, vE_tup, vE_lst, vE_dnew, vE_dnewT, vE_ddisT, vE_dget, vE_fld, vE_new, vE_mcall, vS_fset, vE_idx, vE_slc, vE_call, vE_bf, vE_meth, vE_comp, vE_dcomp, vO_none, vO_some, vC_none, vC_some, vA_nil, vA_cons, vI_rng1, vI_rng2, vS_expr, vS_asg, vS_par, vS_ret, vS_ifs, vS_whl, vS_for, vS_raise, vS_pass, vS_brk, vS_cont, vB_nil, vB_cons, vI_each, vI_enum, vI_zip, vS_asgIx, vS_aug, each_tup, each_ref, enum_tup, enum_ref, zip_tup, zip_ref, aug_add, aug_sub, tg_name, tg_nil, tg_cons, o_add, o_addT, o_addL, o_addS, o_sub, o_mul, o_mulT, o_neB, o_isnotB, o_isB, o_fdiv, o_mod, o_pow, o_eqI, o_neI, o_lt, o_le, o_gt, o_ge, o_is, o_isnot, o_in, o_notin, f_abs, f_str, f_int, f_isi, f_len, f_tuple, f_list, asInt_int, ty_append, ty_extend, ty_update, ty_count, ty_index, Lit.d, truth_bl, truth_non, truth_int, truth_tup, seqD_tup, lenD_tup, tyD_bl, tyD_int, tyD_str, tyD_non, tyD_tup, List.getElem?_cons_zero, List.getElem?_cons_succ, List.set_cons_zero, List.set_cons_succ, Option.some.injEq, exists_eq_left', List.map_cons, List.map_nil, List.cons_append, List.nil_append, List.length_cons, List.length_nil, List.replicate, setAll, wipeD, if_true, if_false, Bool.false_eq_true]
  refine ⟨trivial, vF_of <| sp_check_board hw fun h1 e1 => ?_⟩
  simp only [b_row_to_2, vE_lit, vE_var, vE_bin, vE_neg, vE_not, vE_and, vE_or, vE_cmp, vE_chain, vE_ite, vE_tup, vE_lst, vE_dnew, vE_dnewT, vE_ddisT, vE_dget, vE_fld, vE_new, vE_mcall, vS_fset, vE_idx, vE_slc, vE_call, vE_bf, vE_meth, vE_comp, vE_dcomp, vO_none, vO_some, vC_none, vC_some, vA_nil, vA_cons, vI_rng1, vI_rng2, vS_expr, vS_asg, vS_par, vS_ret, vS_ifs, vS_whl, vS_for, vS_raise, vS_pass, vS_brk, vS_cont, vB_nil, vB_cons, vI_each, vI_enum, vI_zip, vS_asgIx, vS_aug, each_tup, each_ref, enum_tup, enum_ref, zip_tup, zip_ref, aug_add, aug_sub, tg_name, tg_nil, tg_cons, o_add, o_addT, o_addL, o_addS, o_sub, o_mul, o_mulT, o_neB, o_isnotB, o_isB, o_fdiv, o_mod, o_pow, o_eqI, o_neI, o_lt, o_le, o_gt, o_ge, o_is, o_isnot, o_in, o_notin, f_abs, f_str, f_int, f_isi, f_len, f_tuple, f_list, asInt_int, ty_append, ty_extend, ty_update, ty_count, ty_index, Lit.d, truth_bl, truth_non, truth_int, truth_tup, seqD_tup, lenD_tup, tyD_bl, tyD_int, tyD_str, tyD_non, tyD_tup, List.getElem?_cons_zero, List.getElem?_cons_succ, List.set_cons_zero, List.set_cons_succ, Option.some.injEq, exists_eq_left', List.map_cons, List.map_nil, List.cons_append, List.nil_append, List.length_cons, List.length_nil, List.replicate, setAll, wipeD, if_true, if_false, Bool.false_eq_true]
  refine vF_of <| sp_check_hands hw ho fun h2 e2 => ?_
  simp only [b_row_to_3, vE_lit, vE_var, vE_bin, vE_neg, vE_not, vE_and, vE_or, vE_cmp, vE_chain, vE_ite, vE_tup, vE_lst, vE_dnew, vE_dnewT, vE_ddisT, vE_dget, vE_fld, vE_new, vE_mcall, vS_fset, vE_idx, vE_slc, vE_call, vE_bf, vE_meth, vE_comp, vE_dcomp, vO_none, vO_some, vC_none, vC_some, vA_nil, vA_cons, vI_rng1, vI_rng2, vS_expr, vS_asg, vS_par, vS_ret, vS_ifs, vS_whl, vS_for, vS_raise, vS_pass, vS_brk, vS_cont, vB_nil, vB_cons, vI_each, vI_enum, vI_zip, vS_asgIx, vS_aug, each_tup, each_ref, enum_tup, enum_ref, zip_tup, zip_ref, aug_add, aug_sub, tg_name, tg_nil, tg_cons, o_add, o_addT, o_addL, o_addS, o_sub, o_mul, o_mulT, o_neB, o_isnotB, o_isB, o_fdiv, o_mod, o_pow, o_eqI, o_neI, o_lt, o_le, o_gt, o_ge, o_is, o_isnot, o_in, o_notin, f_abs, f_str, f_int, f_isi, f_len, f_tuple, f_list, asInt_int, ty_append, ty_extend, ty_update, ty_count, ty_index, Lit.d, truth_bl, truth_non, truth_int, truth_tup, seqD_tup, lenD_tup, tyD_bl, tyD_int, tyD_str, tyD_non, tyD_tup, List.getElem?_cons_zero, List.getElem?_cons_succ, List.set_cons_zero, List.set_cons_succ, Option.some.injEq, exists_eq_left', List.map_cons, List.map_nil, List.cons_append, List.nil_append, List.length_cons, List.length_nil, List.replicate, setAll, wipeD, if_true, if_false, Bool.false_eq_true]
  refine vF_of <| sp_check_hands hw oto fun h3 e3 => ?_
  have e0 := (e1.trans e2).trans e3
  simp only [b_row_to_4, vE_lit, vE_var, vE_bin, vE_neg, vE_not, vE_and, vE_or, vE_cmp, vE_chain, vE_ite, vE_tup, vE_lst, vE_dnew, vE_dnewT, vE_ddisT, vE_dget, vE_fld, vE_new, vE_mcall, vS_fset, vE_idx, vE_slc, vE_call, vE_bf, vE_meth, vE_comp, vE_dcomp, vO_none, vO_some, vC_none, vC_some, vA_nil, vA_cons, vI_rng1, vI_rng2, vS_expr, vS_asg, vS_par, vS_ret, vS_ifs, vS_whl, vS_for, vS_raise, vS_pass, vS_brk, vS_cont, vB_nil, vB_cons, vI_each, vI_enum, vI_zip, vS_asgIx, vS_aug, each_tup, each_ref, enum_tup, enum_ref, zip_tup, zip_ref, aug_add, aug_sub, tg_name, tg_nil, tg_cons, o_add, o_addT, o_addL, o_addS, o_sub, o_mul, o_mulT, o_neB, o_isnotB, o_isB, o_fdiv, o_mod, o_pow, o_eqI, o_neI, o_lt, o_le, o_gt, o_ge, o_is, o_isnot, o_in, o_notin, f_abs, f_str, f_int, f_isi, f_len, f_tuple, f_list, asInt_int, ty_append, ty_extend, ty_update, ty_count, ty_index, Lit.d, truth_bl, truth_non, truth_int, truth_tup, seqD_tup, lenD_tup, tyD_bl, tyD_int, tyD_str, tyD_non, tyD_tup, List.getElem?_cons_zero, List.getElem?_cons_succ, List.set_cons_zero, List.set_cons_succ, Option.some.injEq, exists_eq_left', List.map_cons, List.map_nil, List.cons_append, List.nil_append, List.length_cons, List.length_nil, List.replicate, setAll, wipeD, if_true, if_false, Bool.false_eq_true]
  refine fun a ha => new_go ha fun r l h4 hr4 e4 g4 => ⟨rfl, ?_⟩
  simp only [b_row_to_5, vE_lit, vE_var, vE_bin, vE_neg, vE_not, vE_and, vE_or, vE_cmp, vE_chain, vE_ite, vE_tup, vE_lst, vE_dnew, vE_dnewT, vE_ddisT, vE_dget, vE_fld, vE_new, vE_mcall, vS_fset, vE_idx, vE_slc, vE_call, vE_bf, vE_meth, vE_comp, vE_dcomp, vO_none, vO_some, vC_none, vC_some, vA_nil, vA_cons, vI_rng1, vI_rng2, vS_expr, vS_asg, vS_par, vS_ret, vS_ifs, vS_whl, vS_for, vS_raise, vS_pass, vS_brk, vS_cont, vB_nil, vB_cons, vI_each, vI_enum, vI_zip, vS_asgIx, vS_aug, each_tup, each_ref, enum_tup, enum_ref, zip_tup, zip_ref, aug_add, aug_sub, tg_name, tg_nil, tg_cons, o_add, o_addT, o_addL, o_addS, o_sub, o_mul, o_mulT, o_neB, o_isnotB, o_isB, o_fdiv, o_mod, o_pow, o_eqI, o_neI, o_lt, o_le, o_gt, o_ge, o_is, o_isnot, o_in, o_notin, f_abs, f_str, f_int, f_isi, f_len, f_tuple, f_list, asInt_int, ty_append, ty_extend, ty_update, ty_count, ty_index, Lit.d, truth_bl, truth_non, truth_int, truth_tup, seqD_tup, lenD_tup, tyD_bl, tyD_int, tyD_str, tyD_non, tyD_tup, List.getElem?_cons_zero, List.getElem?_cons_succ, List.set_cons_zero, List.set_cons_succ, Option.some.injEq, exists_eq_left', List.map_cons, List.map_nil, List.cons_append, List.nil_append, List.length_cons, List.length_nil, List.replicate, setAll, wipeD, if_true, if_false, Bool.false_eq_true]
  refine whl_inv (fun m σ' h' => ∃ i l, σ' = [some (bdD b), some (haD hs), some (haD ot), some (.ref a)] ∧ GoAt h' a r l b hs i ∧ i ≤ (seqO b hs i).1.length ∧ m + i = manyL b.sw ∧ Ext h3 h') ?_ (m := manyL b.sw) ⟨0, l, rfl, g4, Nat.zero_le _, rfl, e4⟩
  rintro m σ' h' k ⟨i, l, rfl, g, hi, hmi, e⟩ hk
  simp only [vE_lit, vE_var, vE_bin, vE_neg, vE_not, vE_and, vE_or, vE_cmp, vE_chain, vE_ite, vE_tup, vE_lst, vE_dnew, vE_dnewT, vE_ddisT, vE_dget, vE_fld, vE_new, vE_mcall, vS_fset, vE_idx, vE_slc, vE_call, vE_bf, vE_meth, vE_comp, vE_dcomp, vO_none, vO_some, vC_none, vC_some, vA_nil, vA_cons, vI_rng1, vI_rng2, vS_expr, vS_asg, vS_par, vS_ret, vS_ifs, vS_whl, vS_for, vS_raise, vS_pass, vS_brk, vS_cont, vB_nil, vB_cons, vI_each, vI_enum, vI_zip, vS_asgIx, vS_aug, each_tup, each_ref, enum_tup, enum_ref, zip_tup, zip_ref, aug_add, aug_sub, tg_name, tg_nil, tg_cons, o_add, o_addT, o_addL, o_addS, o_sub, o_mul, o_mulT, o_neB, o_isnotB, o_isB, o_fdiv, o_mod, o_pow, o_eqI, o_neI, o_lt, o_le, o_gt, o_ge, o_is, o_isnot, o_in, o_notin, f_abs, f_str, f_int, f_isi, f_len, f_tuple, f_list, asInt_int, ty_append, ty_extend, ty_update, ty_count, ty_index, Lit.d, truth_bl, truth_non, truth_int, truth_tup, seqD_tup, lenD_tup, tyD_bl, tyD_int, tyD_str, tyD_non, tyD_tup, List.getElem?_cons_zero, List.getElem?_cons_succ, List.set_cons_zero, List.set_cons_succ, Option.some.injEq, exists_eq_left', List.map_cons, List.map_nil, List.cons_append, List.nil_append, List.length_cons, List.length_nil, List.replicate, setAll, wipeD, if_true, if_false, Bool.false_eq_true]
  have hLm := seq_len hR ho i
  have last : ((seqO b hs i).1.length ≤ i ∨ ot ∈ (seqO b hs i).1.map (·.1)) → vB b_row_to_7 [some (bdD b), some (haD hs), some (haD ot), some (.ref a)] h' X ⟨fun _ h1 => Q .non h1, Q, fun _ _ => False, fun _ _ => False⟩ := fun c => by
    simp only [b_row_to_7, vE_lit, vE_var, vE_bin, vE_neg, vE_not, vE_and, vE_or, vE_cmp, vE_chain, vE_ite, vE_tup, vE_lst, vE_dnew, vE_dnewT, vE_ddisT, vE_dget, vE_fld, vE_new, vE_mcall, vS_fset, vE_idx, vE_slc, vE_call, vE_bf, vE_meth, vE_comp, vE_dcomp, vO_none, vO_some, vC_none, vC_some, vA_nil, vA_cons, vI_rng1, vI_rng2, vS_expr, vS_asg, vS_par, vS_ret, vS_ifs, vS_whl, vS_for, vS_raise, vS_pass, vS_brk, vS_cont, vB_nil, vB_cons, vI_each, vI_enum, vI_zip, vS_asgIx, vS_aug, each_tup, each_ref, enum_tup, enum_ref, zip_tup, zip_ref, aug_add, aug_sub, tg_name, tg_nil, tg_cons, o_add, o_addT, o_addL, o_addS, o_sub, o_mul, o_mulT, o_neB, o_isnotB, o_isB, o_fdiv, o_mod, o_pow, o_eqI, o_neI, o_lt, o_le, o_gt, o_ge, o_is, o_isnot, o_in, o_notin, f_abs, f_str, f_int, f_isi, f_len, f_tuple, f_list, asInt_int, ty_append, ty_extend, ty_update, ty_count, ty_index, Lit.d, truth_bl, truth_non, truth_int, truth_tup, seqD_tup, lenD_tup, tyD_bl, tyD_int, tyD_str, tyD_non, tyD_tup, List.getElem?_cons_zero, List.getElem?_cons_succ, List.set_cons_zero, List.set_cons_succ, Option.some.injEq, exists_eq_left', List.map_cons, List.map_nil, List.cons_append, List.nil_append, List.length_cons, List.length_nil, List.replicate, setAll, wipeD, if_true, if_false, Bool.false_eq_true]
    rw [fldE g.o go_r]
    refine ⟨isDct_dcT g.r, ?_⟩
    rw [getD_dcT g.r, rows_look, fin_look hR ho (by omega) c]
    exact ⟨key_ha _, _, rfl, q h' (e0.trans e)⟩
  refine ⟨_, _, rfl, g.o, go_o, vF_of <| sp_is_over g ?_⟩
  simp only [truth_bl, Option.some.injEq, exists_eq_left', Bool.not_eq_true', decide_eq_false_iff_not, Nat.not_le]
  by_cases z : (seqO b hs i).1.length ≤ i
  · simp only [Nat.not_lt.mpr z, if_false, truth_bl, Option.some.injEq, exists_eq_left', decide_eq_true z, Bool.not_true, Bool.false_eq_true]
    exact last (.inl z)
  · have z' := Nat.lt_of_not_le z
    simp only [z', if_true]
    rw [fldE g.o go_r, mem_dcT g.r, rows_any]
    refine ⟨key_ha _, ?_⟩
    simp only [truth_bl, Option.some.injEq, exists_eq_left', Bool.not_eq_true', decide_eq_false_iff_not]
    by_cases y : ot ∈ (seqO b hs i).1.map (·.1)
    · simp only [y, not_true_eq_false, if_false]
      exact last (.inr y)
    · simp only [y, not_false_eq_true, if_true]
      simp only [b_row_to_6, vE_lit, vE_var, vE_bin, vE_neg, vE_not, vE_and, vE_or, vE_cmp, vE_chain, vE_ite, vE_tup, vE_lst, vE_dnew, vE_dnewT, vE_ddisT, vE_dget, vE_fld, vE_new, vE_mcall, vS_fset, vE_idx, vE_slc, vE_call, vE_bf, vE_meth, vE_comp, vE_dcomp, vO_none, vO_some, vC_none, vC_some, vA_nil, vA_cons, vI_rng1, vI_rng2, vS_expr, vS_asg, vS_par, vS_ret, vS_ifs, vS_whl, vS_for, vS_raise, vS_pass, vS_brk, vS_cont, vB_nil, vB_cons, vI_each, vI_enum, vI_zip, vS_asgIx, vS_aug, each_tup, each_ref, enum_tup, enum_ref, zip_tup, zip_ref, aug_add, aug_sub, tg_name, tg_nil, tg_cons, o_add, o_addT, o_addL, o_addS, o_sub, o_mul, o_mulT, o_neB, o_isnotB, o_isB, o_fdiv, o_mod, o_pow, o_eqI, o_neI, o_lt, o_le, o_gt, o_ge, o_is, o_isnot, o_in, o_notin, f_abs, f_str, f_int, f_isi, f_len, f_tuple, f_list, asInt_int, ty_append, ty_extend, ty_update, ty_count, ty_index, Lit.d, truth_bl, truth_non, truth_int, truth_tup, seqD_tup, lenD_tup, tyD_bl, tyD_int, tyD_str, tyD_non, tyD_tup, List.getElem?_cons_zero, List.getElem?_cons_succ, List.set_cons_zero, List.set_cons_succ, Option.some.injEq, exists_eq_left', List.map_cons, List.map_nil, List.cons_append, List.nil_append, List.length_cons, List.length_nil, List.replicate, setAll, wipeD, if_true, if_false, Bool.false_eq_true]
      refine ⟨_, _, rfl, g.o, go_n, vF_of <| sp_next hb hR ho hm g hi fun f l' h5 hf g5 hf5 e5 => ?_⟩
      have hE : Ext h3 h5 := fun c x hx => e5 c x (ne_fresh hx ha) (ne_fresh hx hr4) (e c x hx)
      exact hk (manyL b.sw - (seqO b hs i).1.length) _ _ (by omega) ⟨(seqO b hs i).1.length, l', rfl, g5, len_len hi, by omega, hE⟩
theorem sp_hands_led_to (hb : b.Ok 3 4 3) (hR : Rests b) (ho : haOk b hs) (hm : manyL b.sw ≤ 1000) (q : ∀ h', Ext h h' → Q (.tup ((((fin b hs).1.map (·.1)).mergeSort (leE haD)).map haD)) h') : wpF fn_hands_led_to [bdD b, haD hs] h X Q := by
  have hw : b.Ok 4 24 4 := hb.wide (by decide) (by decide) (by decide)
  refine vF_to ?_
  simp only [fn_hands_led_to, b_hands_led_to_1, vF_mk, vE_lit, vE_var, vE_bin, vE_neg, vE_not, vE_and, vE_or, vE_cmp, vE_chain, vE_ite, vE_tup, vE_lst, vE_dnew, vE_dnewT, vE_ddisT, vE_dget, vE_fld, vE_new, vE_mcall, vS_fset, vE_idx, vE_slc, vE_call, vE_bf, vE_meth, vE_comp, vE_dcomp, vO_none, vO_some, vC_none, vC_some, vA_nil, vA_cons, vI_rng1, vI_rng2, vS_expr, vS_asg, vS_par, vS_ret, vS_ifs, vS_whl, vS_for, vS_raise, vS_pass, vS_brk, vS_cont, vB_nil, vB_cons, vI_each, vI_enum, vI_zip, vS_asgIx, vS_aug, each_tup, each_ref, enum_tup, enum_ref, zip_tup, zip_ref, aug_add, aug_sub, tg_name, tg_nil, tg_cons, o_add, o_addT, o_addL, o_addS, o_sub, o_mul, o_mulT, o_neB, o_isnotB, o_isB, o_fdiv, o_mod, o_pow, o_eqI, o_neI, o_lt, o_le, o_gt, o_ge, o_is, o_isnot, o_in, o_notin, f_abs, f_str, f_int, f_isi, f_len, f_tuple, f_list, asInt_int, ty_append, ty_extend, ty_update, ty_count, ty_index, Lit.d, truth_bl, truth_non, truth_int, truth_tup, seqD_tup, lenD_tup, tyD_bl, tyD_int, tyD_str, tyD_non, tyD_tup, List.getElem?_cons_zero, List.getElem?_cons_succ, List.set_cons_zero, List.set_cons_succ, Option.some.injEq, exists_eq_left', List.map_cons, List.map_nil, List.cons_append, List.nil_append, List.length_cons, List.length_nil, List.replicate, setAll, wipeD, if_true, if_false, Bool.false_eq_true]
  refine ⟨trivial, vF_of <| sp_check_board hw fun h1 e1 => ?_⟩
  simp only [b_hands_led_to_2, vE_lit, vE_var, vE_bin, vE_neg, vE_not, vE_and, vE_or, vE_cmp, vE_chain, vE_ite, vE_tup, vE_lst, vE_dnew, vE_dnewT, vE_ddisT, vE_dget, vE_fld, vE_new, vE_mcall, vS_fset, vE_idx, vE_slc, vE_call, vE_bf, vE_meth, vE_comp, vE_dcomp, vO_none, vO_some, vC_none, vC_some, vA_nil, vA_cons, vI_rng1, vI_rng2, vS_expr, vS_asg, vS_par, vS_ret, vS_ifs, vS_whl, vS_for, vS_raise, vS_pass, vS_brk, vS_cont, vB_nil, vB_cons, vI_each, vI_enum, vI_zip, vS_asgIx, vS_aug, each_tup, each_ref, enum_tup, enum_ref, zip_tup, zip_ref, aug_add, aug_sub, tg_name, tg_nil, tg_cons, o_add, o_addT, o_addL, o_addS, o_sub, o_mul, o_mulT, o_neB, o_isnotB, o_isB, o_fdiv, o_mod, o_pow, o_eqI, o_neI, o_lt, o_le, o_gt, o_ge, o_is, o_isnot, o_in, o_notin, f_abs, f_str, f_int, f_isi, f_len, f_tuple, f_list, asInt_int, ty_append, ty_extend, ty_update, ty_count, ty_index, Lit.d, truth_bl, truth_non, truth_int, truth_tup, seqD_tup, lenD_tup, tyD_bl, tyD_int, tyD_str, tyD_non, tyD_tup, List.getElem?_cons_zero, List.getElem?_cons_succ, List.set_cons_zero, List.set_cons_succ, Option.some.injEq, exists_eq_left', List.map_cons, List.map_nil, List.cons_append, List.nil_append, List.length_cons, List.length_nil, List.replicate, setAll, wipeD, if_true, if_false, Bool.false_eq_true]
  refine vF_of <| sp_check_hands hw ho fun h2 e2 => ?_
  have e0 := e1.trans e2
  simp only [b_hands_led_to_3, vE_lit, vE_var, vE_bin, vE_neg, vE_not, vE_and, vE_or, vE_cmp, vE_chain, vE_ite, vE_tup, vE_lst, vE_dnew, vE_dnewT, vE_ddisT, vE_dget, vE_fld, vE_new, vE_mcall, vS_fset, vE_idx, vE_slc, vE_call, vE_bf, vE_meth, vE_comp, vE_dcomp, vO_none, vO_some, vC_none, vC_some, vA_nil, vA_cons, vI_rng1, vI_rng2, vS_expr, vS_asg, vS_par, vS_ret, vS_ifs, vS_whl, vS_for, vS_raise, vS_pass, vS_brk, vS_cont, vB_nil, vB_cons, vI_each, vI_enum, vI_zip, vS_asgIx, vS_aug, each_tup, each_ref, enum_tup, enum_ref, zip_tup, zip_ref, aug_add, aug_sub, tg_name, tg_nil, tg_cons, o_add, o_addT, o_addL, o_addS, o_sub, o_mul, o_mulT, o_neB, o_isnotB, o_isB, o_fdiv, o_mod, o_pow, o_eqI, o_neI, o_lt, o_le, o_gt, o_ge, o_is, o_isnot, o_in, o_notin, f_abs, f_str, f_int, f_isi, f_len, f_tuple, f_list, asInt_int, ty_append, ty_extend, ty_update, ty_count, ty_index, Lit.d, truth_bl, truth_non, truth_int, truth_tup, seqD_tup, lenD_tup, tyD_bl, tyD_int, tyD_str, tyD_non, tyD_tup, List.getElem?_cons_zero, List.getElem?_cons_succ, List.set_cons_zero, List.set_cons_succ, Option.some.injEq, exists_eq_left', List.map_cons, List.map_nil, List.cons_append, List.nil_append, List.length_cons, List.length_nil, List.replicate, setAll, wipeD, if_true, if_false, Bool.false_eq_true]
  refine fun a ha => new_go ha fun r l h4 hr4 e4 g4 => ⟨rfl, ?_⟩
  simp only [b_hands_led_to_4, vE_lit, vE_var, vE_bin, vE_neg, vE_not, vE_and, vE_or, vE_cmp, vE_chain, vE_ite, vE_tup, vE_lst, vE_dnew, vE_dnewT, vE_ddisT, vE_dget, vE_fld, vE_new, vE_mcall, vS_fset, vE_idx, vE_slc, vE_call, vE_bf, vE_meth, vE_comp, vE_dcomp, vO_none, vO_some, vC_none, vC_some, vA_nil, vA_cons, vI_rng1, vI_rng2, vS_expr, vS_asg, vS_par, vS_ret, vS_ifs, vS_whl, vS_for, vS_raise, vS_pass, vS_brk, vS_cont, vB_nil, vB_cons, vI_each, vI_enum, vI_zip, vS_asgIx, vS_aug, each_tup, each_ref, enum_tup, enum_ref, zip_tup, zip_ref, aug_add, aug_sub, tg_name, tg_nil, tg_cons, o_add, o_addT, o_addL, o_addS, o_sub, o_mul, o_mulT, o_neB, o_isnotB, o_isB, o_fdiv, o_mod, o_pow, o_eqI, o_neI, o_lt, o_le, o_gt, o_ge, o_is, o_isnot, o_in, o_notin, f_abs, f_str, f_int, f_isi, f_len, f_tuple, f_list, asInt_int, ty_append, ty_extend, ty_update, ty_count, ty_index, Lit.d, truth_bl, truth_non, truth_int, truth_tup, seqD_tup, lenD_tup, tyD_bl, tyD_int, tyD_str, tyD_non, tyD_tup, List.getElem?_cons_zero, List.getElem?_cons_succ, List.set_cons_zero, List.set_cons_succ, Option.some.injEq, exists_eq_left', List.map_cons, List.map_nil, List.cons_append, List.nil_append, List.length_cons, List.length_nil, List.replicate, setAll, wipeD, if_true, if_false, Bool.false_eq_true]
  refine whl_inv (fun m σ' h' => ∃ i l, σ' = [some (bdD b), some (haD hs), some (.ref a)] ∧ GoAt h' a r l b hs i ∧ i ≤ (seqO b hs i).1.length ∧ m + i = manyL b.sw ∧ Ext h2 h') ?_ (m := manyL b.sw) ⟨0, l, rfl, g4, Nat.zero_le _, rfl, e4⟩
  rintro m σ' h' k ⟨i, l, rfl, g, hi, hmi, e⟩ hk
  simp only [vE_lit, vE_var, vE_bin, vE_neg, vE_not, vE_and, vE_or, vE_cmp, vE_chain, vE_ite, vE_tup, vE_lst, vE_dnew, vE_dnewT, vE_ddisT, vE_dget, vE_fld, vE_new, vE_mcall, vS_fset, vE_idx, vE_slc, vE_call, vE_bf, vE_meth, vE_comp, vE_dcomp, vO_none, vO_some, vC_none, vC_some, vA_nil, vA_cons, vI_rng1, vI_rng2, vS_expr, vS_asg, vS_par, vS_ret, vS_ifs, vS_whl, vS_for, vS_raise, vS_pass, vS_brk, vS_cont, vB_nil, vB_cons, vI_each, vI_enum, vI_zip, vS_asgIx, vS_aug, each_tup, each_ref, enum_tup, enum_ref, zip_tup, zip_ref, aug_add, aug_sub, tg_name, tg_nil, tg_cons, o_add, o_addT, o_addL, o_addS, o_sub, o_mul, o_mulT, o_neB, o_isnotB, o_isB, o_fdiv, o_mod, o_pow, o_eqI, o_neI, o_lt, o_le, o_gt, o_ge, o_is, o_isnot, o_in, o_notin, f_abs, f_str, f_int, f_isi, f_len, f_tuple, f_list, asInt_int, ty_append, ty_extend, ty_update, ty_count, ty_index, Lit.d, truth_bl, truth_non, truth_int, truth_tup, seqD_tup, lenD_tup, tyD_bl, tyD_int, tyD_str, tyD_non, tyD_tup, List.getElem?_cons_zero, List.getElem?_cons_succ, List.set_cons_zero, List.set_cons_succ, Option.some.injEq, exists_eq_left', List.map_cons, List.map_nil, List.cons_append, List.nil_append, List.length_cons, List.length_nil, List.replicate, setAll, wipeD, if_true, if_false, Bool.false_eq_true]
  have hLm := seq_len hR ho i
  refine ⟨_, _, rfl, g.o, go_o, vF_of <| sp_is_over g ?_⟩
  simp only [truth_bl, Option.some.injEq, exists_eq_left', Bool.not_eq_true', decide_eq_false_iff_not, Nat.not_le]
  by_cases z : (seqO b hs i).1.length ≤ i
  · simp only [Nat.not_lt.mpr z, if_false]
    simp only [b_hands_led_to_6, vE_lit, vE_var, vE_bin, vE_neg, vE_not, vE_and, vE_or, vE_cmp, vE_chain, vE_ite, vE_tup, vE_lst, vE_dnew, vE_dnewT, vE_ddisT, vE_dget, vE_fld, vE_new, vE_mcall, vS_fset, vE_idx, vE_slc, vE_call, vE_bf, vE_meth, vE_comp, vE_dcomp, vO_none, vO_some, vC_none, vC_some, vA_nil, vA_cons, vI_rng1, vI_rng2, vS_expr, vS_asg, vS_par, vS_ret, vS_ifs, vS_whl, vS_for, vS_raise, vS_pass, vS_brk, vS_cont, vB_nil, vB_cons, vI_each, vI_enum, vI_zip, vS_asgIx, vS_aug, each_tup, each_ref, enum_tup, enum_ref, zip_tup, zip_ref, aug_add, aug_sub, tg_name, tg_nil, tg_cons, o_add, o_addT, o_addL, o_addS, o_sub, o_mul, o_mulT, o_neB, o_isnotB, o_isB, o_fdiv, o_mod, o_pow, o_eqI, o_neI, o_lt, o_le, o_gt, o_ge, o_is, o_isnot, o_in, o_notin, f_abs, f_str, f_int, f_isi, f_len, f_tuple, f_list, asInt_int, ty_append, ty_extend, ty_update, ty_count, ty_index, Lit.d, truth_bl, truth_non, truth_int, truth_tup, seqD_tup, lenD_tup, tyD_bl, tyD_int, tyD_str, tyD_non, tyD_tup, List.getElem?_cons_zero, List.getElem?_cons_succ, List.set_cons_zero, List.set_cons_succ, Option.some.injEq, exists_eq_left', List.map_cons, List.map_nil, List.cons_append, List.nil_append, List.length_cons, List.length_nil, List.replicate, setAll, wipeD, if_true, if_false, Bool.false_eq_true]
    rw [fldE g.o go_r]
    have g2 := g.r
    rw [seq_fin hR ho z] at g2
    refine f_sortE (xs := (fin b hs).1.map (·.1)) enc_ha ?_ (.inr ⟨_, g2, (rows_keys _).symm⟩) (by rw [List.length_map]; have := fin_len hR ho; omega) fun t ht => ?_
    · intro x hx
      obtain ⟨en, hen, rfl⟩ := List.mem_map.mp hx
      have := ((fin_inv hR ho).ok en hen).1.1
      have s0 := hb.s0
      unfold haD
      cases q : en.1 with
      | nil => rw [q] at this; simp at this; omega
      | cons _ _ => rfl
    · refine ⟨_, seqD_lst up_same, ?_⟩
      exact q _ ((e0.trans e).trans (.up ht))
  · have z' := Nat.lt_of_not_le z
    simp only [z', if_true]
    simp only [b_hands_led_to_5, vE_lit, vE_var, vE_bin, vE_neg, vE_not, vE_and, vE_or, vE_cmp, vE_chain, vE_ite, vE_tup, vE_lst, vE_dnew, vE_dnewT, vE_ddisT, vE_dget, vE_fld, vE_new, vE_mcall, vS_fset, vE_idx, vE_slc, vE_call, vE_bf, vE_meth, vE_comp, vE_dcomp, vO_none, vO_some, vC_none, vC_some, vA_nil, vA_cons, vI_rng1, vI_rng2, vS_expr, vS_asg, vS_par, vS_ret, vS_ifs, vS_whl, vS_for, vS_raise, vS_pass, vS_brk, vS_cont, vB_nil, vB_cons, vI_each, vI_enum, vI_zip, vS_asgIx, vS_aug, each_tup, each_ref, enum_tup, enum_ref, zip_tup, zip_ref, aug_add, aug_sub, tg_name, tg_nil, tg_cons, o_add, o_addT, o_addL, o_addS, o_sub, o_mul, o_mulT, o_neB, o_isnotB, o_isB, o_fdiv, o_mod, o_pow, o_eqI, o_neI, o_lt, o_le, o_gt, o_ge, o_is, o_isnot, o_in, o_notin, f_abs, f_str, f_int, f_isi, f_len, f_tuple, f_list, asInt_int, ty_append, ty_extend, ty_update, ty_count, ty_index, Lit.d, truth_bl, truth_non, truth_int, truth_tup, seqD_tup, lenD_tup, tyD_bl, tyD_int, tyD_str, tyD_non, tyD_tup, List.getElem?_cons_zero, List.getElem?_cons_succ, List.set_cons_zero, List.set_cons_succ, Option.some.injEq, exists_eq_left', List.map_cons, List.map_nil, List.cons_append, List.nil_append, List.length_cons, List.length_nil, List.replicate, setAll, wipeD, if_true, if_false, Bool.false_eq_true]
    refine ⟨_, _, rfl, g.o, go_n, vF_of <| sp_next hb hR ho hm g hi fun f l' h5 hf g5 hf5 e5 => ?_⟩
    have hE : Ext h2 h5 := fun c x hx => e5 c x (ne_fresh hx ha) (ne_fresh hx hr4) (e c x hx)
    exact hk (manyL b.sw - (seqO b hs i).1.length) _ _ (by omega) ⟨(seqO b hs i).1.length, l', rfl, g5, len_len hi, by omega, hE⟩
end
end Mp
namespace Mp
section
variable {b : Bd} {h : Hh} {X : PX} {Q : PV} {hs : List Nat}
theorem sp__law_going (hb : b.Ok 3 4 3) (hR : Rests b) (ho : haOk b hs) (hm : manyL b.sw ≤ 1000)
    (q : ∀ o r e h', h o = none → h r = none → h e = none → Ext h h' → h' o = some (.lst ((fin b hs).1.map fun e => haD e.1)) → h' r = some (.dcT (rowsD (fin b hs).1)) → h' e = some (.dcT (endsD (fin b hs).2)) → Q (.tup [.ref o, .ref r, .ref e]) h') : wpF fn__law_going [bdD b, haD hs] h X Q := by
  have hn := hb.s1
  refine vF_to ?_
  simp only [fn__law_going, b__law_going_1, vF_mk, vE_lit, vE_var, vE_bin, vE_neg, vE_not, vE_and, vE_or, vE_cmp, vE_chain, vE_ite, vE_tup, vE_lst, vE_dnew, vE_dnewT, vE_ddisT, vE_dget, vE_fld, vE_new, vE_mcall, vS_fset, vE_idx, vE_slc, vE_call, vE_bf, vE_meth, vE_comp, vE_dcomp, vO_none, vO_some, vC_none, vC_some, vA_nil, vA_cons, vI_rng1, vI_rng2, vS_expr, vS_asg, vS_par, vS_ret, vS_ifs, vS_whl, vS_for, vS_raise, vS_pass, vS_brk, vS_cont, vB_nil, vB_cons, vI_each, vI_enum, vI_zip, vS_asgIx, vS_aug, each_tup, each_ref, enum_tup, enum_ref, zip_tup, zip_ref, aug_add, aug_sub, tg_name, tg_nil, tg_cons, o_add, o_addT, o_addL, o_addS, o_sub, o_mul, o_mulT, o_neB, o_isnotB, o_isB, o_fdiv, o_mod, o_pow, o_eqI, o_neI, o_lt, o_le, o_gt, o_ge, o_is, o_isnot, o_in, o_notin, f_abs, f_str, f_int, f_isi, f_len, f_tuple, f_list, asInt_int, ty_append, ty_extend, ty_update, ty_count, ty_index, Lit.d, truth_bl, truth_non, truth_int, truth_tup, seqD_tup, lenD_tup, tyD_bl, tyD_int, tyD_str, tyD_non, tyD_tup, List.getElem?_cons_zero, List.getElem?_cons_succ, List.set_cons_zero, List.set_cons_succ, Option.some.injEq, exists_eq_left', List.map_cons, List.map_nil, List.cons_append, List.nil_append, List.length_cons, List.length_nil, List.replicate, setAll, wipeD, if_true, if_false, Bool.false_eq_true]
  refine ⟨trivial, by decide, fun o ho1 => fun r hr1 => ⟨by decide, key_ha _, up_same, fun g hg1 => ⟨by decide, ?_⟩⟩⟩
  have nro : r ≠ o := by
    rintro rfl; rw [up_same] at hr1; cases hr1
  have hr0 : h r = none := by rw [up_ne nro] at hr1; exact hr1
  have ngr : g ≠ r := by
    rintro rfl; rw [up_same] at hg1; cases hg1
  have ngo : g ≠ o := by
    rintro rfl; rw [up_ne ngr, up_ne ngr, up_same] at hg1; cases hg1
  have hg0 : h g = none := by rw [up_ne ngr, up_ne ngr, up_ne ngo] at hg1; exact hg1
  simp only [b__law_going_2, vE_lit, vE_var, vE_bin, vE_neg, vE_not, vE_and, vE_or, vE_cmp, vE_chain, vE_ite, vE_tup, vE_lst, vE_dnew, vE_dnewT, vE_ddisT, vE_dget, vE_fld, vE_new, vE_mcall, vS_fset, vE_idx, vE_slc, vE_call, vE_bf, vE_meth, vE_comp, vE_dcomp, vO_none, vO_some, vC_none, vC_some, vA_nil, vA_cons, vI_rng1, vI_rng2, vS_expr, vS_asg, vS_par, vS_ret, vS_ifs, vS_whl, vS_for, vS_raise, vS_pass, vS_brk, vS_cont, vB_nil, vB_cons, vI_each, vI_enum, vI_zip, vS_asgIx, vS_aug, each_tup, each_ref, enum_tup, enum_ref, zip_tup, zip_ref, aug_add, aug_sub, tg_name, tg_nil, tg_cons, o_add, o_addT, o_addL, o_addS, o_sub, o_mul, o_mulT, o_neB, o_isnotB, o_isB, o_fdiv, o_mod, o_pow, o_eqI, o_neI, o_lt, o_le, o_gt, o_ge, o_is, o_isnot, o_in, o_notin, f_abs, f_str, f_int, f_isi, f_len, f_tuple, f_list, asInt_int, ty_append, ty_extend, ty_update, ty_count, ty_index, Lit.d, truth_bl, truth_non, truth_int, truth_tup, seqD_tup, lenD_tup, tyD_bl, tyD_int, tyD_str, tyD_non, tyD_tup, List.getElem?_cons_zero, List.getElem?_cons_succ, List.set_cons_zero, List.set_cons_succ, Option.some.injEq, exists_eq_left', List.map_cons, List.map_nil, List.cons_append, List.nil_append, List.length_cons, List.length_nil, List.replicate, setAll, wipeD, if_true, if_false, Bool.false_eq_true]
  refine whl_inv (fun m σ' h' => ∃ i o6 o7 o8 o9, σ' = [some (bdD b), some (haD hs), some (.ref o), some (.ref r), some (.ref g), some (.int (i : Nat)), o6, o7, o8, o9] ∧ i ≤ (seqO b hs i).1.length ∧ m + i = manyL b.sw ∧ Ext h h' ∧ h' o = some (.lst ((seqO b hs i).1.map fun e => haD e.1)) ∧ h' r = some (.dcT (rowsD (seqO b hs i).1)) ∧ h' g = some (.dcT (endsD (seqO b hs i).2))) ?_ (m := manyL b.sw) ⟨0, _, _, _, _, rfl, Nat.zero_le _, rfl, ?_, ?_, ?_, ?_⟩
  · rintro m σ' h' k ⟨i, o6, o7, o8, o9, rfl, hi, hmi, e, hO, hr, hg⟩ hk
    have hLm := seq_len hR ho i
    have I := seq_inv hR ho i
    simp only [vE_lit, vE_var, vE_bin, vE_neg, vE_not, vE_and, vE_or, vE_cmp, vE_chain, vE_ite, vE_tup, vE_lst, vE_dnew, vE_dnewT, vE_ddisT, vE_dget, vE_fld, vE_new, vE_mcall, vS_fset, vE_idx, vE_slc, vE_call, vE_bf, vE_meth, vE_comp, vE_dcomp, vO_none, vO_some, vC_none, vC_some, vA_nil, vA_cons, vI_rng1, vI_rng2, vS_expr, vS_asg, vS_par, vS_ret, vS_ifs, vS_whl, vS_for, vS_raise, vS_pass, vS_brk, vS_cont, vB_nil, vB_cons, vI_each, vI_enum, vI_zip, vS_asgIx, vS_aug, each_tup, each_ref, enum_tup, enum_ref, zip_tup, zip_ref, aug_add, aug_sub, tg_name, tg_nil, tg_cons, o_add, o_addT, o_addL, o_addS, o_sub, o_mul, o_mulT, o_neB, o_isnotB, o_isB, o_fdiv, o_mod, o_pow, o_eqI, o_neI, o_lt, o_le, o_gt, o_ge, o_is, o_isnot, o_in, o_notin, f_abs, f_str, f_int, f_isi, f_len, f_tuple, f_list, asInt_int, ty_append, ty_extend, ty_update, ty_count, ty_index, Lit.d, truth_bl, truth_non, truth_int, truth_tup, seqD_tup, lenD_tup, tyD_bl, tyD_int, tyD_str, tyD_non, tyD_tup, List.getElem?_cons_zero, List.getElem?_cons_succ, List.set_cons_zero, List.set_cons_succ, Option.some.injEq, exists_eq_left', List.map_cons, List.map_nil, List.cons_append, List.nil_append, List.length_cons, List.length_nil, List.replicate, setAll, wipeD, if_true, if_false, Bool.false_eq_true, lenD_lst hO, List.length_map]
    by_cases z : (seqO b hs i).1.length ≤ i
    · have z' : decide (((i : Nat) : Int) < ((seqO b hs i).1.length : Nat)) = false := decide_eq_false (by omega)
      simp only [z', Bool.false_eq_true, if_false]
      simp only [b__law_going_12, vE_lit, vE_var, vE_bin, vE_neg, vE_not, vE_and, vE_or, vE_cmp, vE_chain, vE_ite, vE_tup, vE_lst, vE_dnew, vE_dnewT, vE_ddisT, vE_dget, vE_fld, vE_new, vE_mcall, vS_fset, vE_idx, vE_slc, vE_call, vE_bf, vE_meth, vE_comp, vE_dcomp, vO_none, vO_some, vC_none, vC_some, vA_nil, vA_cons, vI_rng1, vI_rng2, vS_expr, vS_asg, vS_par, vS_ret, vS_ifs, vS_whl, vS_for, vS_raise, vS_pass, vS_brk, vS_cont, vB_nil, vB_cons, vI_each, vI_enum, vI_zip, vS_asgIx, vS_aug, each_tup, each_ref, enum_tup, enum_ref, zip_tup, zip_ref, aug_add, aug_sub, tg_name, tg_nil, tg_cons, o_add, o_addT, o_addL, o_addS, o_sub, o_mul, o_mulT, o_neB, o_isnotB, o_isB, o_fdiv, o_mod, o_pow, o_eqI, o_neI, o_lt, o_le, o_gt, o_ge, o_is, o_isnot, o_in, o_notin, f_abs, f_str, f_int, f_isi, f_len, f_tuple, f_list, asInt_int, ty_append, ty_extend, ty_update, ty_count, ty_index, Lit.d, truth_bl, truth_non, truth_int, truth_tup, seqD_tup, lenD_tup, tyD_bl, tyD_int, tyD_str, tyD_non, tyD_tup, List.getElem?_cons_zero, List.getElem?_cons_succ, List.set_cons_zero, List.set_cons_succ, Option.some.injEq, exists_eq_left', List.map_cons, List.map_nil, List.cons_append, List.nil_append, List.length_cons, List.length_nil, List.replicate, setAll, wipeD, if_true, if_false, Bool.false_eq_true]
      have ef := seq_fin hR ho z
      rw [ef] at hO hr hg
      exact ⟨by decide, q o r g h' ho1 hr0 hg0 e hO hr hg⟩
    · have hlt := Nat.lt_of_not_le z
      have z' : decide (((i : Nat) : Int) < ((seqO b hs i).1.length : Nat)) = true := decide_eq_true (by omega)
      simp only [z', if_true]
      obtain ⟨here, hit⟩ : ∃ here, (seqO b hs i).1[i]? = some here := ⟨_, List.getElem?_eq_getElem hlt⟩
      have hlen := rows_le hR ho i here (List.mem_of_getElem? hit)
      simp only [b__law_going_3, vE_lit, vE_var, vE_bin, vE_neg, vE_not, vE_and, vE_or, vE_cmp, vE_chain, vE_ite, vE_tup, vE_lst, vE_dnew, vE_dnewT, vE_ddisT, vE_dget, vE_fld, vE_new, vE_mcall, vS_fset, vE_idx, vE_slc, vE_call, vE_bf, vE_meth, vE_comp, vE_dcomp, vO_none, vO_some, vC_none, vC_some, vA_nil, vA_cons, vI_rng1, vI_rng2, vS_expr, vS_asg, vS_par, vS_ret, vS_ifs, vS_whl, vS_for, vS_raise, vS_pass, vS_brk, vS_cont, vB_nil, vB_cons, vI_each, vI_enum, vI_zip, vS_asgIx, vS_aug, each_tup, each_ref, enum_tup, enum_ref, zip_tup, zip_ref, aug_add, aug_sub, tg_name, tg_nil, tg_cons, o_add, o_addT, o_addL, o_addS, o_sub, o_mul, o_mulT, o_neB, o_isnotB, o_isB, o_fdiv, o_mod, o_pow, o_eqI, o_neI, o_lt, o_le, o_gt, o_ge, o_is, o_isnot, o_in, o_notin, f_abs, f_str, f_int, f_isi, f_len, f_tuple, f_list, asInt_int, ty_append, ty_extend, ty_update, ty_count, ty_index, Lit.d, truth_bl, truth_non, truth_int, truth_tup, seqD_tup, lenD_tup, tyD_bl, tyD_int, tyD_str, tyD_non, tyD_tup, List.getElem?_cons_zero, List.getElem?_cons_succ, List.set_cons_zero, List.set_cons_succ, Option.some.injEq, exists_eq_left', List.map_cons, List.map_nil, List.cons_append, List.nil_append, List.length_cons, List.length_nil, List.replicate, setAll, wipeD, if_true, if_false, Bool.false_eq_true]
      rw [ix_lst hO]
      refine ⟨haD here.1, by rw [atI_nat, List.getElem?_map, hit]; rfl, ?_⟩
      simp only [b__law_going_4, bdD, vE_lit, vE_var, vE_bin, vE_neg, vE_not, vE_and, vE_or, vE_cmp, vE_chain, vE_ite, vE_tup, vE_lst, vE_dnew, vE_dnewT, vE_ddisT, vE_dget, vE_fld, vE_new, vE_mcall, vS_fset, vE_idx, vE_slc, vE_call, vE_bf, vE_meth, vE_comp, vE_dcomp, vO_none, vO_some, vC_none, vC_some, vA_nil, vA_cons, vI_rng1, vI_rng2, vS_expr, vS_asg, vS_par, vS_ret, vS_ifs, vS_whl, vS_for, vS_raise, vS_pass, vS_brk, vS_cont, vB_nil, vB_cons, vI_each, vI_enum, vI_zip, vS_asgIx, vS_aug, each_tup, each_ref, enum_tup, enum_ref, zip_tup, zip_ref, aug_add, aug_sub, tg_name, tg_nil, tg_cons, o_add, o_addT, o_addL, o_addS, o_sub, o_mul, o_mulT, o_neB, o_isnotB, o_isB, o_fdiv, o_mod, o_pow, o_eqI, o_neI, o_lt, o_le, o_gt, o_ge, o_is, o_isnot, o_in, o_notin, f_abs, f_str, f_int, f_isi, f_len, f_tuple, f_list, asInt_int, ty_append, ty_extend, ty_update, ty_count, ty_index, Lit.d, truth_bl, truth_non, truth_int, truth_tup, seqD_tup, lenD_tup, tyD_bl, tyD_int, tyD_str, tyD_non, tyD_tup, List.getElem?_cons_zero, List.getElem?_cons_succ, List.set_cons_zero, List.set_cons_succ, Option.some.injEq, exists_eq_left', List.map_cons, List.map_nil, List.cons_append, List.nil_append, List.length_cons, List.length_nil, List.replicate, setAll, wipeD, if_true, if_false, Bool.false_eq_true, ix_tup, atI_1, List.length_map]
      refine ⟨by omega, by omega, ?_⟩
      rw [Int.toNat_natCast]
      refine itr_inv (fun j σ' h' => (∃ o7 o8 o9, σ' = [some (bdD b), some (haD hs), some (.ref o), some (.ref r), some (.ref g), some (.int (i : Nat)), some (haD here.1), o7, o8, o9]) ∧ j ≤ b.sw.length ∧ Ext h h' ∧ h' o = some (.lst ((procJ b here (seqO b hs i) j).1.map fun e => haD e.1)) ∧ h' r = some (.dcT (rowsD (procJ b here (seqO b hs i) j).1)) ∧ h' g = some (.dcT (endsD (procJ b here (seqO b hs i) j).2))) (fun _ _ h' _ => GOk_nil h') ?_ ?_ ⟨⟨_, _, _, rfl⟩, Nat.zero_le _, e, hO, hr, hg⟩
      · rintro j y σ' h' k2 hy ⟨⟨o7, o8, o9, rfl⟩, hj, e, hO, hr, hg⟩ hk2
        have hj' := (List.getElem?_eq_some_iff.mp hy).1
        rw [List.length_map, List.length_range] at hj'
        rw [List.getElem?_map, List.getElem?_range hj'] at hy
        obtain rfl : D.int (j : Nat) = y := Option.some.inj hy
        have J := BJ.all hR I hit j (by omega)
        have oh := (J.ok here (List.mem_of_getElem? J.hi)).1
        have J2 := BJ.all hR I hit (j + 1) (by omega)
        have lenJ : (procJ b here (seqO b hs i) (j + 1)).1.length ≤ manyL b.sw := by
          rw [← List.length_map (f := (·.1))]
          exact met_len J2.nd fun o ho => by
            obtain ⟨e, he, rfl⟩ := List.mem_map.mp ho
            exact (J2.ok e he).1
        have lenE : (procJ b here (seqO b hs i) j).2.length ≤ 100000 := by
          have : ((procJ b here (seqO b hs i) j).2.map (·.1)).length ≤ (((List.range b.cups).map fun c => (true, c)) ++ ((List.range b.sw.length).map fun c => (false, c)) : List (Bool × Nat)).length := nodup_sub2 J.ne fun x hx => by
            obtain ⟨qq, hq, rfl⟩ := List.mem_map.mp hx
            obtain ⟨r', s', _, hs', _, oo, ep⟩ := J.en qq hq
            obtain ⟨_, _, _, ok, _⟩ := endS_runs hR hs' oo
            have okp : plOk b.cups b.sw.length qq.1 := by rw [← ep]; exact ok.1
            obtain ⟨⟨c, n⟩, rr⟩ := qq
            unfold plOk at okp
            cases c with
            | true => exact List.mem_append_left _ (List.mem_map.mpr ⟨n, List.mem_range.mpr (by simpa using okp), rfl⟩)
            | false => exact List.mem_append_right _ (List.mem_map.mpr ⟨n, List.mem_range.mpr (by simpa using okp), rfl⟩)
          rw [List.length_append, List.length_map, List.length_map, List.length_map, List.length_range, List.length_range] at this
          have := hb.c1
          omega
        simp only [vE_lit, vE_var, vE_bin, vE_neg, vE_not, vE_and, vE_or, vE_cmp, vE_chain, vE_ite, vE_tup, vE_lst, vE_dnew, vE_dnewT, vE_ddisT, vE_dget, vE_fld, vE_new, vE_mcall, vS_fset, vE_idx, vE_slc, vE_call, vE_bf, vE_meth, vE_comp, vE_dcomp, vO_none, vO_some, vC_none, vC_some, vA_nil, vA_cons, vI_rng1, vI_rng2, vS_expr, vS_asg, vS_par, vS_ret, vS_ifs, vS_whl, vS_for, vS_raise, vS_pass, vS_brk, vS_cont, vB_nil, vB_cons, vI_each, vI_enum, vI_zip, vS_asgIx, vS_aug, each_tup, each_ref, enum_tup, enum_ref, zip_tup, zip_ref, aug_add, aug_sub, tg_name, tg_nil, tg_cons, o_add, o_addT, o_addL, o_addS, o_sub, o_mul, o_mulT, o_neB, o_isnotB, o_isB, o_fdiv, o_mod, o_pow, o_eqI, o_neI, o_lt, o_le, o_gt, o_ge, o_is, o_isnot, o_in, o_notin, f_abs, f_str, f_int, f_isi, f_len, f_tuple, f_list, asInt_int, ty_append, ty_extend, ty_update, ty_count, ty_index, Lit.d, truth_bl, truth_non, truth_int, truth_tup, seqD_tup, lenD_tup, tyD_bl, tyD_int, tyD_str, tyD_non, tyD_tup, List.getElem?_cons_zero, List.getElem?_cons_succ, List.set_cons_zero, List.set_cons_succ, Option.some.injEq, exists_eq_left', List.map_cons, List.map_nil, List.cons_append, List.nil_append, List.length_cons, List.length_nil, List.replicate, setAll, wipeD, if_true, if_false, Bool.false_eq_true]
        simp only [b__law_going_5, vE_lit, vE_var, vE_bin, vE_neg, vE_not, vE_and, vE_or, vE_cmp, vE_chain, vE_ite, vE_tup, vE_lst, vE_dnew, vE_dnewT, vE_ddisT, vE_dget, vE_fld, vE_new, vE_mcall, vS_fset, vE_idx, vE_slc, vE_call, vE_bf, vE_meth, vE_comp, vE_dcomp, vO_none, vO_some, vC_none, vC_some, vA_nil, vA_cons, vI_rng1, vI_rng2, vS_expr, vS_asg, vS_par, vS_ret, vS_ifs, vS_whl, vS_for, vS_raise, vS_pass, vS_brk, vS_cont, vB_nil, vB_cons, vI_each, vI_enum, vI_zip, vS_asgIx, vS_aug, each_tup, each_ref, enum_tup, enum_ref, zip_tup, zip_ref, aug_add, aug_sub, tg_name, tg_nil, tg_cons, o_add, o_addT, o_addL, o_addS, o_sub, o_mul, o_mulT, o_neB, o_isnotB, o_isB, o_fdiv, o_mod, o_pow, o_eqI, o_neI, o_lt, o_le, o_gt, o_ge, o_is, o_isnot, o_in, o_notin, f_abs, f_str, f_int, f_isi, f_len, f_tuple, f_list, asInt_int, ty_append, ty_extend, ty_update, ty_count, ty_index, Lit.d, truth_bl, truth_non, truth_int, truth_tup, seqD_tup, lenD_tup, tyD_bl, tyD_int, tyD_str, tyD_non, tyD_tup, List.getElem?_cons_zero, List.getElem?_cons_succ, List.set_cons_zero, List.set_cons_succ, Option.some.injEq, exists_eq_left', List.map_cons, List.map_nil, List.cons_append, List.nil_append, List.length_cons, List.length_nil, List.replicate, setAll, wipeD, if_true, if_false, Bool.false_eq_true]
        refine vF_of <| sp_ldropE hb hR hj' oh fun h2 e2 => ?_
        simp only [tg_cons, tg_name, tg_nil, vE_lit, vE_var, vE_bin, vE_neg, vE_not, vE_and, vE_or, vE_cmp, vE_chain, vE_ite, vE_tup, vE_lst, vE_dnew, vE_dnewT, vE_ddisT, vE_dget, vE_fld, vE_new, vE_mcall, vS_fset, vE_idx, vE_slc, vE_call, vE_bf, vE_meth, vE_comp, vE_dcomp, vO_none, vO_some, vC_none, vC_some, vA_nil, vA_cons, vI_rng1, vI_rng2, vS_expr, vS_asg, vS_par, vS_ret, vS_ifs, vS_whl, vS_for, vS_raise, vS_pass, vS_brk, vS_cont, vB_nil, vB_cons, vI_each, vI_enum, vI_zip, vS_asgIx, vS_aug, each_tup, each_ref, enum_tup, enum_ref, zip_tup, zip_ref, aug_add, aug_sub, tg_name, tg_nil, tg_cons, o_add, o_addT, o_addL, o_addS, o_sub, o_mul, o_mulT, o_neB, o_isnotB, o_isB, o_fdiv, o_mod, o_pow, o_eqI, o_neI, o_lt, o_le, o_gt, o_ge, o_is, o_isnot, o_in, o_notin, f_abs, f_str, f_int, f_isi, f_len, f_tuple, f_list, asInt_int, ty_append, ty_extend, ty_update, ty_count, ty_index, Lit.d, truth_bl, truth_non, truth_int, truth_tup, seqD_tup, lenD_tup, tyD_bl, tyD_int, tyD_str, tyD_non, tyD_tup, List.getElem?_cons_zero, List.getElem?_cons_succ, List.set_cons_zero, List.set_cons_succ, Option.some.injEq, exists_eq_left', List.map_cons, List.map_nil, List.cons_append, List.nil_append, List.length_cons, List.length_nil, List.replicate, setAll, wipeD, if_true, if_false, Bool.false_eq_true]
        have hO2 := e2 _ _ hO
        have hr2 := e2 _ _ hr
        have hg2 := e2 _ _ hg
        have e02 := e.trans e2
        have ep := procJ_succ b here (seqO b hs i) j
        have ep1 : (procJ b here (seqO b hs i) (j + 1)).1 = if (endS b j here.1).2 ∈ (procJ b here (seqO b hs i) j).1.map (·.1) then (procJ b here (seqO b hs i) j).1 else (procJ b here (seqO b hs i) j).1 ++ [((endS b j here.1).2, here.2 ++ [j])] := by rw [ep]; rfl
        have ep2 : (procJ b here (seqO b hs i) (j + 1)).2 = if (endS b j here.1).1 ∈ (procJ b here (seqO b hs i) j).2.map (·.1) then (procJ b here (seqO b hs i) j).2 else (procJ b here (seqO b hs i) j).2 ++ [((endS b j here.1).1, here.2 ++ [j])] := by rw [ep]; rfl
        have nog : o ≠ g := ngo.symm
        have nrg : r ≠ g := ngr.symm
        have hlook := lookup_nodup (k := here.1) (v := here.2) J.nd (List.mem_of_getElem? J.hi)
        have part2 : ∀ (h3 : Hh) (P : Po), P.nx = k2 → Ext h h3 → h3 o = some (.lst ((procJ b here (seqO b hs i) j).1.map fun e => haD e.1)) → h3 r = some (.dcT (rowsD (procJ b here (seqO b hs i) j).1)) → h3 g = some (.dcT (endsD (procJ b here (seqO b hs i) (j + 1)).2)) →
            vB b__law_going_8 [some (bdD b), some (haD hs), some (.ref o), some (.ref r), some (.ref g), some (.int (i : Nat)), some (haD here.1), some (.int (j : Nat)), some (plD (endS b j here.1).1), some (haD (endS b j here.1).2)] h3 X P := by
          intro h3 P hP e3 hO3 hr3 hg3
          simp only [b__law_going_8, vE_lit, vE_var, vE_bin, vE_neg, vE_not, vE_and, vE_or, vE_cmp, vE_chain, vE_ite, vE_tup, vE_lst, vE_dnew, vE_dnewT, vE_ddisT, vE_dget, vE_fld, vE_new, vE_mcall, vS_fset, vE_idx, vE_slc, vE_call, vE_bf, vE_meth, vE_comp, vE_dcomp, vO_none, vO_some, vC_none, vC_some, vA_nil, vA_cons, vI_rng1, vI_rng2, vS_expr, vS_asg, vS_par, vS_ret, vS_ifs, vS_whl, vS_for, vS_raise, vS_pass, vS_brk, vS_cont, vB_nil, vB_cons, vI_each, vI_enum, vI_zip, vS_asgIx, vS_aug, each_tup, each_ref, enum_tup, enum_ref, zip_tup, zip_ref, aug_add, aug_sub, tg_name, tg_nil, tg_cons, o_add, o_addT, o_addL, o_addS, o_sub, o_mul, o_mulT, o_neB, o_isnotB, o_isB, o_fdiv, o_mod, o_pow, o_eqI, o_neI, o_lt, o_le, o_gt, o_ge, o_is, o_isnot, o_in, o_notin, f_abs, f_str, f_int, f_isi, f_len, f_tuple, f_list, asInt_int, ty_append, ty_extend, ty_update, ty_count, ty_index, Lit.d, truth_bl, truth_non, truth_int, truth_tup, seqD_tup, lenD_tup, tyD_bl, tyD_int, tyD_str, tyD_non, tyD_tup, List.getElem?_cons_zero, List.getElem?_cons_succ, List.set_cons_zero, List.set_cons_succ, Option.some.injEq, exists_eq_left', List.map_cons, List.map_nil, List.cons_append, List.nil_append, List.length_cons, List.length_nil, List.replicate, setAll, wipeD, if_true, if_false, Bool.false_eq_true]
          rw [mem_dcT hr3, rows_any]
          refine ⟨key_ha _, ?_⟩
          simp only [truth_bl, Option.some.injEq, exists_eq_left', Bool.not_eq_true', decide_eq_false_iff_not]
          by_cases z : (endS b j here.1).2 ∈ (procJ b here (seqO b hs i) j).1.map (·.1)
          · rw [if_pos z] at ep1
            simp only [z, not_true_eq_false, if_false, vB_nil, hP]
            exact hk2 _ _ ⟨⟨_, _, _, rfl⟩, hj', e3, by rw [ep1]; exact hO3, by rw [ep1]; exact hr3, hg3⟩
          · rw [if_neg z] at ep1
            rw [ep1, List.length_append] at lenJ
            have lenJ : (procJ b here (seqO b hs i) j).1.length + 1 ≤ manyL b.sw := lenJ
            have lenR := rows_len (procJ b here (seqO b hs i) j).1
            simp only [z, not_false_eq_true, if_true]
            simp only [b__law_going_9, vE_lit, vE_var, vE_bin, vE_neg, vE_not, vE_and, vE_or, vE_cmp, vE_chain, vE_ite, vE_tup, vE_lst, vE_dnew, vE_dnewT, vE_ddisT, vE_dget, vE_fld, vE_new, vE_mcall, vS_fset, vE_idx, vE_slc, vE_call, vE_bf, vE_meth, vE_comp, vE_dcomp, vO_none, vO_some, vC_none, vC_some, vA_nil, vA_cons, vI_rng1, vI_rng2, vS_expr, vS_asg, vS_par, vS_ret, vS_ifs, vS_whl, vS_for, vS_raise, vS_pass, vS_brk, vS_cont, vB_nil, vB_cons, vI_each, vI_enum, vI_zip, vS_asgIx, vS_aug, each_tup, each_ref, enum_tup, enum_ref, zip_tup, zip_ref, aug_add, aug_sub, tg_name, tg_nil, tg_cons, o_add, o_addT, o_addL, o_addS, o_sub, o_mul, o_mulT, o_neB, o_isnotB, o_isB, o_fdiv, o_mod, o_pow, o_eqI, o_neI, o_lt, o_le, o_gt, o_ge, o_is, o_isnot, o_in, o_notin, f_abs, f_str, f_int, f_isi, f_len, f_tuple, f_list, asInt_int, ty_append, ty_extend, ty_update, ty_count, ty_index, Lit.d, truth_bl, truth_non, truth_int, truth_tup, seqD_tup, lenD_tup, tyD_bl, tyD_int, tyD_str, tyD_non, tyD_tup, List.getElem?_cons_zero, List.getElem?_cons_succ, List.set_cons_zero, List.set_cons_succ, Option.some.injEq, exists_eq_left', List.map_cons, List.map_nil, List.cons_append, List.nil_append, List.length_cons, List.length_nil, List.replicate, setAll, wipeD, if_true, if_false, Bool.false_eq_true]
            rw [oix_dcT hr3, rows_look, hlook]
            refine ⟨key_ha _, _, rfl, by decide, addH (szl2 (by omega)) ?_⟩
            rw [set_dcT hr3]
            refine ⟨key_ha _, by rw [lenR]; exact szl (by omega), ?_⟩
            rw [rows_stor _ _ _ z, ← ep1]
            simp only [b__law_going_10, vE_lit, vE_var, vE_bin, vE_neg, vE_not, vE_and, vE_or, vE_cmp, vE_chain, vE_ite, vE_tup, vE_lst, vE_dnew, vE_dnewT, vE_ddisT, vE_dget, vE_fld, vE_new, vE_mcall, vS_fset, vE_idx, vE_slc, vE_call, vE_bf, vE_meth, vE_comp, vE_dcomp, vO_none, vO_some, vC_none, vC_some, vA_nil, vA_cons, vI_rng1, vI_rng2, vS_expr, vS_asg, vS_par, vS_ret, vS_ifs, vS_whl, vS_for, vS_raise, vS_pass, vS_brk, vS_cont, vB_nil, vB_cons, vI_each, vI_enum, vI_zip, vS_asgIx, vS_aug, each_tup, each_ref, enum_tup, enum_ref, zip_tup, zip_ref, aug_add, aug_sub, tg_name, tg_nil, tg_cons, o_add, o_addT, o_addL, o_addS, o_sub, o_mul, o_mulT, o_neB, o_isnotB, o_isB, o_fdiv, o_mod, o_pow, o_eqI, o_neI, o_lt, o_le, o_gt, o_ge, o_is, o_isnot, o_in, o_notin, f_abs, f_str, f_int, f_isi, f_len, f_tuple, f_list, asInt_int, ty_append, ty_extend, ty_update, ty_count, ty_index, Lit.d, truth_bl, truth_non, truth_int, truth_tup, seqD_tup, lenD_tup, tyD_bl, tyD_int, tyD_str, tyD_non, tyD_tup, List.getElem?_cons_zero, List.getElem?_cons_succ, List.set_cons_zero, List.set_cons_succ, Option.some.injEq, exists_eq_left', List.map_cons, List.map_nil, List.cons_append, List.nil_append, List.length_cons, List.length_nil, List.replicate, setAll, wipeD, if_true, if_false, Bool.false_eq_true]
            have hO4 : up h3 r (.dcT (rowsD (procJ b here (seqO b hs i) (j + 1)).1)) o = some (.lst ((procJ b here (seqO b hs i) j).1.map fun e => haD e.1)) := by rw [up_ne nro.symm]; exact hO3
            simp only [tyD_lst hO4, m_append]
            refine ⟨trivial, _, hO4, by rw [List.length_map]; exact szl (by omega), ?_⟩
            have hd : ((procJ b here (seqO b hs i) j).1.map fun e => haD e.1) ++ [haD (endS b j here.1).2] = (procJ b here (seqO b hs i) (j + 1)).1.map fun e => haD e.1 := by
              rw [ep1, List.map_append]; rfl
            rw [hd, hP]
            refine hk2 _ _ ⟨⟨_, _, _, rfl⟩, hj', (e3.wr hr0).wr ho1, up_same, ?_, ?_⟩
            · rw [up_ne nro, up_same]
            · rw [up_ne ngo, up_ne ngr]; exact hg3
        simp only [b__law_going_6, vE_lit, vE_var, vE_bin, vE_neg, vE_not, vE_and, vE_or, vE_cmp, vE_chain, vE_ite, vE_tup, vE_lst, vE_dnew, vE_dnewT, vE_ddisT, vE_dget, vE_fld, vE_new, vE_mcall, vS_fset, vE_idx, vE_slc, vE_call, vE_bf, vE_meth, vE_comp, vE_dcomp, vO_none, vO_some, vC_none, vC_some, vA_nil, vA_cons, vI_rng1, vI_rng2, vS_expr, vS_asg, vS_par, vS_ret, vS_ifs, vS_whl, vS_for, vS_raise, vS_pass, vS_brk, vS_cont, vB_nil, vB_cons, vI_each, vI_enum, vI_zip, vS_asgIx, vS_aug, each_tup, each_ref, enum_tup, enum_ref, zip_tup, zip_ref, aug_add, aug_sub, tg_name, tg_nil, tg_cons, o_add, o_addT, o_addL, o_addS, o_sub, o_mul, o_mulT, o_neB, o_isnotB, o_isB, o_fdiv, o_mod, o_pow, o_eqI, o_neI, o_lt, o_le, o_gt, o_ge, o_is, o_isnot, o_in, o_notin, f_abs, f_str, f_int, f_isi, f_len, f_tuple, f_list, asInt_int, ty_append, ty_extend, ty_update, ty_count, ty_index, Lit.d, truth_bl, truth_non, truth_int, truth_tup, seqD_tup, lenD_tup, tyD_bl, tyD_int, tyD_str, tyD_non, tyD_tup, List.getElem?_cons_zero, List.getElem?_cons_succ, List.set_cons_zero, List.set_cons_succ, Option.some.injEq, exists_eq_left', List.map_cons, List.map_nil, List.cons_append, List.nil_append, List.length_cons, List.length_nil, List.replicate, setAll, wipeD, if_true, if_false, Bool.false_eq_true]
        rw [mem_dcT hg2, ends_any]
        refine ⟨key_pl _, ?_⟩
        simp only [truth_bl, Option.some.injEq, exists_eq_left', Bool.not_eq_true', decide_eq_false_iff_not]
        by_cases z : (endS b j here.1).1 ∈ (procJ b here (seqO b hs i) j).2.map (·.1)
        · rw [if_pos z] at ep2
          simp only [z, not_true_eq_false, if_false, vB_nil]
          exact part2 _ _ rfl e02 hO2 hr2 (by rw [ep2]; exact hg2)
        · rw [if_neg z] at ep2
          simp only [z, not_false_eq_true, if_true]
          simp only [b__law_going_7, vE_lit, vE_var, vE_bin, vE_neg, vE_not, vE_and, vE_or, vE_cmp, vE_chain, vE_ite, vE_tup, vE_lst, vE_dnew, vE_dnewT, vE_ddisT, vE_dget, vE_fld, vE_new, vE_mcall, vS_fset, vE_idx, vE_slc, vE_call, vE_bf, vE_meth, vE_comp, vE_dcomp, vO_none, vO_some, vC_none, vC_some, vA_nil, vA_cons, vI_rng1, vI_rng2, vS_expr, vS_asg, vS_par, vS_ret, vS_ifs, vS_whl, vS_for, vS_raise, vS_pass, vS_brk, vS_cont, vB_nil, vB_cons, vI_each, vI_enum, vI_zip, vS_asgIx, vS_aug, each_tup, each_ref, enum_tup, enum_ref, zip_tup, zip_ref, aug_add, aug_sub, tg_name, tg_nil, tg_cons, o_add, o_addT, o_addL, o_addS, o_sub, o_mul, o_mulT, o_neB, o_isnotB, o_isB, o_fdiv, o_mod, o_pow, o_eqI, o_neI, o_lt, o_le, o_gt, o_ge, o_is, o_isnot, o_in, o_notin, f_abs, f_str, f_int, f_isi, f_len, f_tuple, f_list, asInt_int, ty_append, ty_extend, ty_update, ty_count, ty_index, Lit.d, truth_bl, truth_non, truth_int, truth_tup, seqD_tup, lenD_tup, tyD_bl, tyD_int, tyD_str, tyD_non, tyD_tup, List.getElem?_cons_zero, List.getElem?_cons_succ, List.set_cons_zero, List.set_cons_succ, Option.some.injEq, exists_eq_left', List.map_cons, List.map_nil, List.cons_append, List.nil_append, List.length_cons, List.length_nil, List.replicate, setAll, wipeD, if_true, if_false, Bool.false_eq_true]
          rw [oix_dcT hr2, rows_look, hlook]
          refine ⟨key_ha _, _, rfl, by decide, addH (szl2 (by omega)) ?_⟩
          rw [set_dcT hg2]
          refine ⟨key_pl _, by rw [ends_len]; exact szl (by omega), ?_⟩
          rw [ends_stor _ _ _ z, ← ep2]
          exact part2 _ _ rfl (e02.wr hg0) (by rw [up_ne nog]; exact hO2) (by rw [up_ne nrg]; exact hr2) up_same
      · rintro σ' h' ⟨⟨o7, o8, o9, rfl⟩, hj, e, hO, hr, hg⟩
        rw [List.length_map, List.length_range] at *
        have es := seq_succ (b := b) (o0 := hs) hit
        rw [← es] at hO hr hg
        simp only [b__law_going_11, vE_lit, vE_var, vE_bin, vE_neg, vE_not, vE_and, vE_or, vE_cmp, vE_chain, vE_ite, vE_tup, vE_lst, vE_dnew, vE_dnewT, vE_ddisT, vE_dget, vE_fld, vE_new, vE_mcall, vS_fset, vE_idx, vE_slc, vE_call, vE_bf, vE_meth, vE_comp, vE_dcomp, vO_none, vO_some, vC_none, vC_some, vA_nil, vA_cons, vI_rng1, vI_rng2, vS_expr, vS_asg, vS_par, vS_ret, vS_ifs, vS_whl, vS_for, vS_raise, vS_pass, vS_brk, vS_cont, vB_nil, vB_cons, vI_each, vI_enum, vI_zip, vS_asgIx, vS_aug, each_tup, each_ref, enum_tup, enum_ref, zip_tup, zip_ref, aug_add, aug_sub, tg_name, tg_nil, tg_cons, o_add, o_addT, o_addL, o_addS, o_sub, o_mul, o_mulT, o_neB, o_isnotB, o_isB, o_fdiv, o_mod, o_pow, o_eqI, o_neI, o_lt, o_le, o_gt, o_ge, o_is, o_isnot, o_in, o_notin, f_abs, f_str, f_int, f_isi, f_len, f_tuple, f_list, asInt_int, ty_append, ty_extend, ty_update, ty_count, ty_index, Lit.d, truth_bl, truth_non, truth_int, truth_tup, seqD_tup, lenD_tup, tyD_bl, tyD_int, tyD_str, tyD_non, tyD_tup, List.getElem?_cons_zero, List.getElem?_cons_succ, List.set_cons_zero, List.set_cons_succ, Option.some.injEq, exists_eq_left', List.map_cons, List.map_nil, List.cons_append, List.nil_append, List.length_cons, List.length_nil, List.replicate, setAll, wipeD, if_true, if_false, Bool.false_eq_true]
        have hI2 := I
        refine hk (manyL b.sw - (i + 1)) _ _ (by omega) ⟨i + 1, _, _, _, _, rfl, ?_, by omega, e, hO, hr, hg⟩
        obtain ⟨u, eu⟩ := preO (b := b) (o0 := hs) i 1
        rw [eu, List.length_append]; omega
  · exact (((Ext.up ho1).wr hr0).wr hr0).wr hg0
  · rw [up_ne ngo.symm, up_ne nro.symm, up_ne nro.symm, up_same]; rfl
  · rw [up_ne ngr.symm, up_same]; rfl
  · rw [up_same]; rfl
/-- the ends of a row of drops -/
noncomputable def trailE (b : Bd) : List Nat → List Nat → List (Bool × Nat)
  | _, [] => []
  | o, s :: r => (endS b s o).1 :: trailE b (endS b s o).2 r
theorem trail_snoc (s : Nat) : ∀ (r o : List Nat), trailE b o (r ++ [s]) = trailE b o r ++ [(endS b s (follow b o r)).1]
  | [], o => rfl
  | t :: r, o => by
    show (endS b t o).1 :: trailE b (endS b t o).2 (r ++ [s]) = _
    rw [trail_snoc s r]; rfl
theorem trail_len : ∀ (r o : List Nat), (trailE b o r).length = r.length
  | [], _ => rfl
  | t :: r, o => congrArg (· + 1) (trail_len r _)
theorem follow_ok (hR : Rests b) : ∀ (r o : List Nat), (∀ s ∈ r, s < b.sw.length) → haOk b o → haOk b (follow b o r)
  | [], _, _, h => h
  | t :: r, o, hr, h => by
    obtain ⟨_, _, _, ok, _⟩ := endS_runs hR (hr t List.mem_cons_self) h
    exact follow_ok hR r _ (fun s hs => hr s (List.mem_cons_of_mem _ hs)) ok.2
def rowD (r : List Nat) : D := .tup (r.map fun s => plD (false, s))
theorem sp_are_few {r : List Nat} (hl : r.length ≤ 60) (hr : ∀ s ∈ r, s < b.sw.length) (q : ∀ h', Ext h h' → Q (.bl true) h') : wpF fn_are_few_places [bdD b, rowD r] h X Q := by
  refine vF_to ?_
  have e1 : (!isiB .tuple .tuple) = false := rfl
  have e2 : decide ((60 : Int) < (r.length : Nat)) = false := decide_eq_false (by omega)
  simp only [fn_are_few_places, b_are_few_places_1, rowD, vF_mk, vE_lit, vE_var, vE_bin, vE_neg, vE_not, vE_and, vE_or, vE_cmp, vE_chain, vE_ite, vE_tup, vE_lst, vE_dnew, vE_dnewT, vE_ddisT, vE_dget, vE_fld, vE_new, vE_mcall, vS_fset, vE_idx, vE_slc, vE_call, vE_bf, vE_meth, vE_comp, vE_dcomp, vO_none, vO_some, vC_none, vC_some, vA_nil, vA_cons, vI_rng1, vI_rng2, vS_expr, vS_asg, vS_par, vS_ret, vS_ifs, vS_whl, vS_for, vS_raise, vS_pass, vS_brk, vS_cont, vB_nil, vB_cons, vI_each, vI_enum, vI_zip, vS_asgIx, vS_aug, each_tup, each_ref, enum_tup, enum_ref, zip_tup, zip_ref, aug_add, aug_sub, tg_name, tg_nil, tg_cons, o_add, o_addT, o_addL, o_addS, o_sub, o_mul, o_mulT, o_neB, o_isnotB, o_isB, o_fdiv, o_mod, o_pow, o_eqI, o_neI, o_lt, o_le, o_gt, o_ge, o_is, o_isnot, o_in, o_notin, f_abs, f_str, f_int, f_isi, f_len, f_tuple, f_list, asInt_int, ty_append, ty_extend, ty_update, ty_count, ty_index, Lit.d, truth_bl, truth_non, truth_int, truth_tup, seqD_tup, lenD_tup, tyD_bl, tyD_int, tyD_str, tyD_non, tyD_tup, List.getElem?_cons_zero, List.getElem?_cons_succ, List.set_cons_zero, List.set_cons_succ, Option.some.injEq, exists_eq_left', List.map_cons, List.map_nil, List.cons_append, List.nil_append, List.length_cons, List.length_nil, List.replicate, setAll, wipeD, if_true, if_false, Bool.false_eq_true, List.length_map, e1, e2, Bool.false_eq_true, if_false, vB_nil]
  refine ⟨trivial, ?_⟩
  simp only [b_are_few_places_3, vE_lit, vE_var, vE_bin, vE_neg, vE_not, vE_and, vE_or, vE_cmp, vE_chain, vE_ite, vE_tup, vE_lst, vE_dnew, vE_dnewT, vE_ddisT, vE_dget, vE_fld, vE_new, vE_mcall, vS_fset, vE_idx, vE_slc, vE_call, vE_bf, vE_meth, vE_comp, vE_dcomp, vO_none, vO_some, vC_none, vC_some, vA_nil, vA_cons, vI_rng1, vI_rng2, vS_expr, vS_asg, vS_par, vS_ret, vS_ifs, vS_whl, vS_for, vS_raise, vS_pass, vS_brk, vS_cont, vB_nil, vB_cons, vI_each, vI_enum, vI_zip, vS_asgIx, vS_aug, each_tup, each_ref, enum_tup, enum_ref, zip_tup, zip_ref, aug_add, aug_sub, tg_name, tg_nil, tg_cons, o_add, o_addT, o_addL, o_addS, o_sub, o_mul, o_mulT, o_neB, o_isnotB, o_isB, o_fdiv, o_mod, o_pow, o_eqI, o_neI, o_lt, o_le, o_gt, o_ge, o_is, o_isnot, o_in, o_notin, f_abs, f_str, f_int, f_isi, f_len, f_tuple, f_list, asInt_int, ty_append, ty_extend, ty_update, ty_count, ty_index, Lit.d, truth_bl, truth_non, truth_int, truth_tup, seqD_tup, lenD_tup, tyD_bl, tyD_int, tyD_str, tyD_non, tyD_tup, List.getElem?_cons_zero, List.getElem?_cons_succ, List.set_cons_zero, List.set_cons_succ, Option.some.injEq, exists_eq_left', List.map_cons, List.map_nil, List.cons_append, List.nil_append, List.length_cons, List.length_nil, List.replicate, setAll, wipeD, if_true, if_false, Bool.false_eq_true]
  intro p hp
  refine lc_map hp (by rw [List.length_map]; omega) (fun _ => .bl true) (fun h' _ => GOk_nil h') ?_ ?_
  · intro y h2 k2 hy e2 hk2
    obtain ⟨s, hs, rfl⟩ := List.mem_map.mp hy
    try simp only [vE_lit, vE_var, vE_bin, vE_neg, vE_not, vE_and, vE_or, vE_cmp, vE_chain, vE_ite, vE_tup, vE_lst, vE_dnew, vE_dnewT, vE_ddisT, vE_dget, vE_fld, vE_new, vE_mcall, vS_fset, vE_idx, vE_slc, vE_call, vE_bf, vE_meth, vE_comp, vE_dcomp, vO_none, vO_some, vC_none, vC_some, vA_nil, vA_cons, vI_rng1, vI_rng2, vS_expr, vS_asg, vS_par, vS_ret, vS_ifs, vS_whl, vS_for, vS_raise, vS_pass, vS_brk, vS_cont, vB_nil, vB_cons, vI_each, vI_enum, vI_zip, vS_asgIx, vS_aug, each_tup, each_ref, enum_tup, enum_ref, zip_tup, zip_ref, aug_add, aug_sub, tg_name, tg_nil, tg_cons, o_add, o_addT, o_addL, o_addS, o_sub, o_mul, o_mulT, o_neB, o_isnotB, o_isB, o_fdiv, o_mod, o_pow, o_eqI, o_neI, o_lt, o_le, o_gt, o_ge, o_is, o_isnot, o_in, o_notin, f_abs, f_str, f_int, f_isi, f_len, f_tuple, f_list, asInt_int, ty_append, ty_extend, ty_update, ty_count, ty_index, Lit.d, truth_bl, truth_non, truth_int, truth_tup, seqD_tup, lenD_tup, tyD_bl, tyD_int, tyD_str, tyD_non, tyD_tup, List.getElem?_cons_zero, List.getElem?_cons_succ, List.set_cons_zero, List.set_cons_succ, Option.some.injEq, exists_eq_left', List.map_cons, List.map_nil, List.cons_append, List.nil_append, List.length_cons, List.length_nil, List.replicate, setAll, wipeD, if_true, if_false, Bool.false_eq_true]
    exact vF_of <| sp_raw_is_place (hr s hs) (hk2 h2 (.refl _))
  · intro h2 e2 hp2
    rw [f_all]
    refine ⟨r.map fun _ => true, by rw [hp2]; simp [Function.comp_def], ?_⟩
    rw [all_true]
    exact q h2 e2
theorem sp_raw_drops {r : List Nat} (hb : b.Ok 3 4 3) (hR : Rests b) (ho : haOk b hs) (hl : r.length ≤ 60) (hr : ∀ s ∈ r, s < b.sw.length) (q : ∀ p h', Ext h h' → h' p = some (.lst ((trailE b hs r).map plD)) → Q (.tup [.ref p, haD (follow b hs r)]) h') : wpF fn_raw_drops [bdD b, haD hs, rowD r] h X Q := by
  refine vF_to ?_
  simp only [fn_raw_drops, b_raw_drops_1, vF_mk, vE_lit, vE_var, vE_bin, vE_neg, vE_not, vE_and, vE_or, vE_cmp, vE_chain, vE_ite, vE_tup, vE_lst, vE_dnew, vE_dnewT, vE_ddisT, vE_dget, vE_fld, vE_new, vE_mcall, vS_fset, vE_idx, vE_slc, vE_call, vE_bf, vE_meth, vE_comp, vE_dcomp, vO_none, vO_some, vC_none, vC_some, vA_nil, vA_cons, vI_rng1, vI_rng2, vS_expr, vS_asg, vS_par, vS_ret, vS_ifs, vS_whl, vS_for, vS_raise, vS_pass, vS_brk, vS_cont, vB_nil, vB_cons, vI_each, vI_enum, vI_zip, vS_asgIx, vS_aug, each_tup, each_ref, enum_tup, enum_ref, zip_tup, zip_ref, aug_add, aug_sub, tg_name, tg_nil, tg_cons, o_add, o_addT, o_addL, o_addS, o_sub, o_mul, o_mulT, o_neB, o_isnotB, o_isB, o_fdiv, o_mod, o_pow, o_eqI, o_neI, o_lt, o_le, o_gt, o_ge, o_is, o_isnot, o_in, o_notin, f_abs, f_str, f_int, f_isi, f_len, f_tuple, f_list, asInt_int, ty_append, ty_extend, ty_update, ty_count, ty_index, Lit.d, truth_bl, truth_non, truth_int, truth_tup, seqD_tup, lenD_tup, tyD_bl, tyD_int, tyD_str, tyD_non, tyD_tup, List.getElem?_cons_zero, List.getElem?_cons_succ, List.set_cons_zero, List.set_cons_succ, Option.some.injEq, exists_eq_left', List.map_cons, List.map_nil, List.cons_append, List.nil_append, List.length_cons, List.length_nil, List.replicate, setAll, wipeD, if_true, if_false, Bool.false_eq_true]
  refine ⟨trivial, by decide, fun p hp => ?_⟩
  simp only [b_raw_drops_2, rowD, vE_lit, vE_var, vE_bin, vE_neg, vE_not, vE_and, vE_or, vE_cmp, vE_chain, vE_ite, vE_tup, vE_lst, vE_dnew, vE_dnewT, vE_ddisT, vE_dget, vE_fld, vE_new, vE_mcall, vS_fset, vE_idx, vE_slc, vE_call, vE_bf, vE_meth, vE_comp, vE_dcomp, vO_none, vO_some, vC_none, vC_some, vA_nil, vA_cons, vI_rng1, vI_rng2, vS_expr, vS_asg, vS_par, vS_ret, vS_ifs, vS_whl, vS_for, vS_raise, vS_pass, vS_brk, vS_cont, vB_nil, vB_cons, vI_each, vI_enum, vI_zip, vS_asgIx, vS_aug, each_tup, each_ref, enum_tup, enum_ref, zip_tup, zip_ref, aug_add, aug_sub, tg_name, tg_nil, tg_cons, o_add, o_addT, o_addL, o_addS, o_sub, o_mul, o_mulT, o_neB, o_isnotB, o_isB, o_fdiv, o_mod, o_pow, o_eqI, o_neI, o_lt, o_le, o_gt, o_ge, o_is, o_isnot, o_in, o_notin, f_abs, f_str, f_int, f_isi, f_len, f_tuple, f_list, asInt_int, ty_append, ty_extend, ty_update, ty_count, ty_index, Lit.d, truth_bl, truth_non, truth_int, truth_tup, seqD_tup, lenD_tup, tyD_bl, tyD_int, tyD_str, tyD_non, tyD_tup, List.getElem?_cons_zero, List.getElem?_cons_succ, List.set_cons_zero, List.set_cons_succ, Option.some.injEq, exists_eq_left', List.map_cons, List.map_nil, List.cons_append, List.nil_append, List.length_cons, List.length_nil, List.replicate, setAll, wipeD, if_true, if_false, Bool.false_eq_true]
  refine itr_inv (fun t σ' h' => (∃ o4 o5 o6, σ' = [some (bdD b), some (haD (follow b hs (r.take t))), some (.tup (r.map fun s => plD (false, s))), some (.ref p), o4, o5, o6]) ∧ t ≤ r.length ∧ Ext h h' ∧ h' p = some (.lst ((trailE b hs (r.take t)).map plD))) (fun _ _ h' _ => GOk_nil h') ?_ ?_ ⟨⟨_, _, _, rfl⟩, Nat.zero_le _, .up hp, up_same⟩
  · rintro t x σ' h' k hx ⟨⟨o4, o5, o6, rfl⟩, ht, e, hp'⟩ hk
    rw [List.getElem?_map] at hx
    obtain ⟨s, hx', ex⟩ := Option.map_eq_some_iff.mp hx
    subst ex
    have hlt := (List.getElem?_eq_some_iff.mp hx').1
    have hs' := hr s (List.mem_of_getElem? hx')
    have hf := follow_ok hR (r.take t) hs (fun s h => hr s (List.mem_of_mem_take h)) ho
    obtain ⟨n, n1, r1, oke, _⟩ := endS_runs hR hs' hf
    simp only [vE_lit, vE_var, vE_bin, vE_neg, vE_not, vE_and, vE_or, vE_cmp, vE_chain, vE_ite, vE_tup, vE_lst, vE_dnew, vE_dnewT, vE_ddisT, vE_dget, vE_fld, vE_new, vE_mcall, vS_fset, vE_idx, vE_slc, vE_call, vE_bf, vE_meth, vE_comp, vE_dcomp, vO_none, vO_some, vC_none, vC_some, vA_nil, vA_cons, vI_rng1, vI_rng2, vS_expr, vS_asg, vS_par, vS_ret, vS_ifs, vS_whl, vS_for, vS_raise, vS_pass, vS_brk, vS_cont, vB_nil, vB_cons, vI_each, vI_enum, vI_zip, vS_asgIx, vS_aug, each_tup, each_ref, enum_tup, enum_ref, zip_tup, zip_ref, aug_add, aug_sub, tg_name, tg_nil, tg_cons, o_add, o_addT, o_addL, o_addS, o_sub, o_mul, o_mulT, o_neB, o_isnotB, o_isB, o_fdiv, o_mod, o_pow, o_eqI, o_neI, o_lt, o_le, o_gt, o_ge, o_is, o_isnot, o_in, o_notin, f_abs, f_str, f_int, f_isi, f_len, f_tuple, f_list, asInt_int, ty_append, ty_extend, ty_update, ty_count, ty_index, Lit.d, truth_bl, truth_non, truth_int, truth_tup, seqD_tup, lenD_tup, tyD_bl, tyD_int, tyD_str, tyD_non, tyD_tup, List.getElem?_cons_zero, List.getElem?_cons_succ, List.set_cons_zero, List.set_cons_succ, Option.some.injEq, exists_eq_left', List.map_cons, List.map_nil, List.cons_append, List.nil_append, List.length_cons, List.length_nil, List.replicate, setAll, wipeD, if_true, if_false, Bool.false_eq_true]
    simp only [b_raw_drops_3, vE_lit, vE_var, vE_bin, vE_neg, vE_not, vE_and, vE_or, vE_cmp, vE_chain, vE_ite, vE_tup, vE_lst, vE_dnew, vE_dnewT, vE_ddisT, vE_dget, vE_fld, vE_new, vE_mcall, vS_fset, vE_idx, vE_slc, vE_call, vE_bf, vE_meth, vE_comp, vE_dcomp, vO_none, vO_some, vC_none, vC_some, vA_nil, vA_cons, vI_rng1, vI_rng2, vS_expr, vS_asg, vS_par, vS_ret, vS_ifs, vS_whl, vS_for, vS_raise, vS_pass, vS_brk, vS_cont, vB_nil, vB_cons, vI_each, vI_enum, vI_zip, vS_asgIx, vS_aug, each_tup, each_ref, enum_tup, enum_ref, zip_tup, zip_ref, aug_add, aug_sub, tg_name, tg_nil, tg_cons, o_add, o_addT, o_addL, o_addS, o_sub, o_mul, o_mulT, o_neB, o_isnotB, o_isB, o_fdiv, o_mod, o_pow, o_eqI, o_neI, o_lt, o_le, o_gt, o_ge, o_is, o_isnot, o_in, o_notin, f_abs, f_str, f_int, f_isi, f_len, f_tuple, f_list, asInt_int, ty_append, ty_extend, ty_update, ty_count, ty_index, Lit.d, truth_bl, truth_non, truth_int, truth_tup, seqD_tup, lenD_tup, tyD_bl, tyD_int, tyD_str, tyD_non, tyD_tup, List.getElem?_cons_zero, List.getElem?_cons_succ, List.set_cons_zero, List.set_cons_succ, Option.some.injEq, exists_eq_left', List.map_cons, List.map_nil, List.cons_append, List.nil_append, List.length_cons, List.length_nil, List.replicate, setAll, wipeD, if_true, if_false, Bool.false_eq_true]
    have := @sp_raw_whole b 3 4 3 n ((false, s), follow b hs (r.take t)) (endS b s (follow b hs (r.take t))) h' X
    refine vF_of <| this hb (by decide) (by decide) ⟨hs', hf⟩ r1 n1 fun h2 e2 => ?_
    simp only [tg_cons, tg_name, tg_nil, vE_lit, vE_var, vE_bin, vE_neg, vE_not, vE_and, vE_or, vE_cmp, vE_chain, vE_ite, vE_tup, vE_lst, vE_dnew, vE_dnewT, vE_ddisT, vE_dget, vE_fld, vE_new, vE_mcall, vS_fset, vE_idx, vE_slc, vE_call, vE_bf, vE_meth, vE_comp, vE_dcomp, vO_none, vO_some, vC_none, vC_some, vA_nil, vA_cons, vI_rng1, vI_rng2, vS_expr, vS_asg, vS_par, vS_ret, vS_ifs, vS_whl, vS_for, vS_raise, vS_pass, vS_brk, vS_cont, vB_nil, vB_cons, vI_each, vI_enum, vI_zip, vS_asgIx, vS_aug, each_tup, each_ref, enum_tup, enum_ref, zip_tup, zip_ref, aug_add, aug_sub, tg_name, tg_nil, tg_cons, o_add, o_addT, o_addL, o_addS, o_sub, o_mul, o_mulT, o_neB, o_isnotB, o_isB, o_fdiv, o_mod, o_pow, o_eqI, o_neI, o_lt, o_le, o_gt, o_ge, o_is, o_isnot, o_in, o_notin, f_abs, f_str, f_int, f_isi, f_len, f_tuple, f_list, asInt_int, ty_append, ty_extend, ty_update, ty_count, ty_index, Lit.d, truth_bl, truth_non, truth_int, truth_tup, seqD_tup, lenD_tup, tyD_bl, tyD_int, tyD_str, tyD_non, tyD_tup, List.getElem?_cons_zero, List.getElem?_cons_succ, List.set_cons_zero, List.set_cons_succ, Option.some.injEq, exists_eq_left', List.map_cons, List.map_nil, List.cons_append, List.nil_append, List.length_cons, List.length_nil, List.replicate, setAll, wipeD, if_true, if_false, Bool.false_eq_true]
    have hp2 := e2 _ _ hp'
    simp only [b_raw_drops_4, vE_lit, vE_var, vE_bin, vE_neg, vE_not, vE_and, vE_or, vE_cmp, vE_chain, vE_ite, vE_tup, vE_lst, vE_dnew, vE_dnewT, vE_ddisT, vE_dget, vE_fld, vE_new, vE_mcall, vS_fset, vE_idx, vE_slc, vE_call, vE_bf, vE_meth, vE_comp, vE_dcomp, vO_none, vO_some, vC_none, vC_some, vA_nil, vA_cons, vI_rng1, vI_rng2, vS_expr, vS_asg, vS_par, vS_ret, vS_ifs, vS_whl, vS_for, vS_raise, vS_pass, vS_brk, vS_cont, vB_nil, vB_cons, vI_each, vI_enum, vI_zip, vS_asgIx, vS_aug, each_tup, each_ref, enum_tup, enum_ref, zip_tup, zip_ref, aug_add, aug_sub, tg_name, tg_nil, tg_cons, o_add, o_addT, o_addL, o_addS, o_sub, o_mul, o_mulT, o_neB, o_isnotB, o_isB, o_fdiv, o_mod, o_pow, o_eqI, o_neI, o_lt, o_le, o_gt, o_ge, o_is, o_isnot, o_in, o_notin, f_abs, f_str, f_int, f_isi, f_len, f_tuple, f_list, asInt_int, ty_append, ty_extend, ty_update, ty_count, ty_index, Lit.d, truth_bl, truth_non, truth_int, truth_tup, seqD_tup, lenD_tup, tyD_bl, tyD_int, tyD_str, tyD_non, tyD_tup, List.getElem?_cons_zero, List.getElem?_cons_succ, List.set_cons_zero, List.set_cons_succ, Option.some.injEq, exists_eq_left', List.map_cons, List.map_nil, List.cons_append, List.nil_append, List.length_cons, List.length_nil, List.replicate, setAll, wipeD, if_true, if_false, Bool.false_eq_true, tyD_lst hp2, m_append]
    refine ⟨trivial, _, hp2, by rw [List.length_map, trail_len, List.length_take]; exact szl (by omega), ?_⟩
    have et : r.take (t + 1) = r.take t ++ [s] := by rw [List.take_add_one, hx']; rfl
    refine hk _ _ ⟨⟨some (plD (false, s)), some (plD (endS b s (follow b hs (r.take t))).1), some (.int n), ?_⟩, hlt, (e.trans e2).wr hp, ?_⟩
    · rw [et, follow_snoc]
    · rw [up_same, et, trail_snoc, List.map_append]; rfl
  · rintro σ' h' ⟨⟨o4, o5, o6, rfl⟩, ht, e, hp'⟩
    rw [List.length_map, List.take_length] at *
    simp only [b_raw_drops_5, vE_lit, vE_var, vE_bin, vE_neg, vE_not, vE_and, vE_or, vE_cmp, vE_chain, vE_ite, vE_tup, vE_lst, vE_dnew, vE_dnewT, vE_ddisT, vE_dget, vE_fld, vE_new, vE_mcall, vS_fset, vE_idx, vE_slc, vE_call, vE_bf, vE_meth, vE_comp, vE_dcomp, vO_none, vO_some, vC_none, vC_some, vA_nil, vA_cons, vI_rng1, vI_rng2, vS_expr, vS_asg, vS_par, vS_ret, vS_ifs, vS_whl, vS_for, vS_raise, vS_pass, vS_brk, vS_cont, vB_nil, vB_cons, vI_each, vI_enum, vI_zip, vS_asgIx, vS_aug, each_tup, each_ref, enum_tup, enum_ref, zip_tup, zip_ref, aug_add, aug_sub, tg_name, tg_nil, tg_cons, o_add, o_addT, o_addL, o_addS, o_sub, o_mul, o_mulT, o_neB, o_isnotB, o_isB, o_fdiv, o_mod, o_pow, o_eqI, o_neI, o_lt, o_le, o_gt, o_ge, o_is, o_isnot, o_in, o_notin, f_abs, f_str, f_int, f_isi, f_len, f_tuple, f_list, asInt_int, ty_append, ty_extend, ty_update, ty_count, ty_index, Lit.d, truth_bl, truth_non, truth_int, truth_tup, seqD_tup, lenD_tup, tyD_bl, tyD_int, tyD_str, tyD_non, tyD_tup, List.getElem?_cons_zero, List.getElem?_cons_succ, List.set_cons_zero, List.set_cons_succ, Option.some.injEq, exists_eq_left', List.map_cons, List.map_nil, List.cons_append, List.nil_append, List.length_cons, List.length_nil, List.replicate, setAll, wipeD, if_true, if_false, Bool.false_eq_true]
    exact ⟨by decide, q p h' e hp'⟩
theorem sp_drops {r : List Nat} (hb : b.Ok 3 4 3) (hR : Rests b) (ho : haOk b hs) (hl : r.length ≤ 60) (hr : ∀ s ∈ r, s < b.sw.length) (q : ∀ h', Ext h h' → Q (.tup [.tup ((trailE b hs r).map plD), haD (follow b hs r)]) h') : wpF fn_drops [bdD b, haD hs, rowD r] h X Q := by
  have hw : b.Ok 4 24 4 := hb.wide (by decide) (by decide) (by decide)
  refine vF_to ?_
  simp only [fn_drops, b_drops_1, vF_mk, vE_lit, vE_var, vE_bin, vE_neg, vE_not, vE_and, vE_or, vE_cmp, vE_chain, vE_ite, vE_tup, vE_lst, vE_dnew, vE_dnewT, vE_ddisT, vE_dget, vE_fld, vE_new, vE_mcall, vS_fset, vE_idx, vE_slc, vE_call, vE_bf, vE_meth, vE_comp, vE_dcomp, vO_none, vO_some, vC_none, vC_some, vA_nil, vA_cons, vI_rng1, vI_rng2, vS_expr, vS_asg, vS_par, vS_ret, vS_ifs, vS_whl, vS_for, vS_raise, vS_pass, vS_brk, vS_cont, vB_nil, vB_cons, vI_each, vI_enum, vI_zip, vS_asgIx, vS_aug, each_tup, each_ref, enum_tup, enum_ref, zip_tup, zip_ref, aug_add, aug_sub, tg_name, tg_nil, tg_cons, o_add, o_addT, o_addL, o_addS, o_sub, o_mul, o_mulT, o_neB, o_isnotB, o_isB, o_fdiv, o_mod, o_pow, o_eqI, o_neI, o_lt, o_le, o_gt, o_ge, o_is, o_isnot, o_in, o_notin, f_abs, f_str, f_int, f_isi, f_len, f_tuple, f_list, asInt_int, ty_append, ty_extend, ty_update, ty_count, ty_index, Lit.d, truth_bl, truth_non, truth_int, truth_tup, seqD_tup, lenD_tup, tyD_bl, tyD_int, tyD_str, tyD_non, tyD_tup, List.getElem?_cons_zero, List.getElem?_cons_succ, List.set_cons_zero, List.set_cons_succ, Option.some.injEq, exists_eq_left', List.map_cons, List.map_nil, List.cons_append, List.nil_append, List.length_cons, List.length_nil, List.replicate, setAll, wipeD, if_true, if_false, Bool.false_eq_true]
  refine ⟨trivial, vF_of <| sp_check_hands hw ho fun h1 e1 => ?_⟩
  simp only [b_drops_2, vE_lit, vE_var, vE_bin, vE_neg, vE_not, vE_and, vE_or, vE_cmp, vE_chain, vE_ite, vE_tup, vE_lst, vE_dnew, vE_dnewT, vE_ddisT, vE_dget, vE_fld, vE_new, vE_mcall, vS_fset, vE_idx, vE_slc, vE_call, vE_bf, vE_meth, vE_comp, vE_dcomp, vO_none, vO_some, vC_none, vC_some, vA_nil, vA_cons, vI_rng1, vI_rng2, vS_expr, vS_asg, vS_par, vS_ret, vS_ifs, vS_whl, vS_for, vS_raise, vS_pass, vS_brk, vS_cont, vB_nil, vB_cons, vI_each, vI_enum, vI_zip, vS_asgIx, vS_aug, each_tup, each_ref, enum_tup, enum_ref, zip_tup, zip_ref, aug_add, aug_sub, tg_name, tg_nil, tg_cons, o_add, o_addT, o_addL, o_addS, o_sub, o_mul, o_mulT, o_neB, o_isnotB, o_isB, o_fdiv, o_mod, o_pow, o_eqI, o_neI, o_lt, o_le, o_gt, o_ge, o_is, o_isnot, o_in, o_notin, f_abs, f_str, f_int, f_isi, f_len, f_tuple, f_list, asInt_int, ty_append, ty_extend, ty_update, ty_count, ty_index, Lit.d, truth_bl, truth_non, truth_int, truth_tup, seqD_tup, lenD_tup, tyD_bl, tyD_int, tyD_str, tyD_non, tyD_tup, List.getElem?_cons_zero, List.getElem?_cons_succ, List.set_cons_zero, List.set_cons_succ, Option.some.injEq, exists_eq_left', List.map_cons, List.map_nil, List.cons_append, List.nil_append, List.length_cons, List.length_nil, List.replicate, setAll, wipeD, if_true, if_false, Bool.false_eq_true]
  refine vF_of <| sp_are_few hl hr fun h2 e2 => ?_
  simp only [truth_bl, Option.some.injEq, exists_eq_left', Bool.not_true, Bool.false_eq_true, if_false, vB_nil]
  simp only [b_drops_4, vE_lit, vE_var, vE_bin, vE_neg, vE_not, vE_and, vE_or, vE_cmp, vE_chain, vE_ite, vE_tup, vE_lst, vE_dnew, vE_dnewT, vE_ddisT, vE_dget, vE_fld, vE_new, vE_mcall, vS_fset, vE_idx, vE_slc, vE_call, vE_bf, vE_meth, vE_comp, vE_dcomp, vO_none, vO_some, vC_none, vC_some, vA_nil, vA_cons, vI_rng1, vI_rng2, vS_expr, vS_asg, vS_par, vS_ret, vS_ifs, vS_whl, vS_for, vS_raise, vS_pass, vS_brk, vS_cont, vB_nil, vB_cons, vI_each, vI_enum, vI_zip, vS_asgIx, vS_aug, each_tup, each_ref, enum_tup, enum_ref, zip_tup, zip_ref, aug_add, aug_sub, tg_name, tg_nil, tg_cons, o_add, o_addT, o_addL, o_addS, o_sub, o_mul, o_mulT, o_neB, o_isnotB, o_isB, o_fdiv, o_mod, o_pow, o_eqI, o_neI, o_lt, o_le, o_gt, o_ge, o_is, o_isnot, o_in, o_notin, f_abs, f_str, f_int, f_isi, f_len, f_tuple, f_list, asInt_int, ty_append, ty_extend, ty_update, ty_count, ty_index, Lit.d, truth_bl, truth_non, truth_int, truth_tup, seqD_tup, lenD_tup, tyD_bl, tyD_int, tyD_str, tyD_non, tyD_tup, List.getElem?_cons_zero, List.getElem?_cons_succ, List.set_cons_zero, List.set_cons_succ, Option.some.injEq, exists_eq_left', List.map_cons, List.map_nil, List.cons_append, List.nil_append, List.length_cons, List.length_nil, List.replicate, setAll, wipeD, if_true, if_false, Bool.false_eq_true]
  refine vF_of <| sp_raw_drops hb hR ho hl hr fun p h3 e3 hp => ?_
  simp only [tg_cons, tg_name, tg_nil, vE_lit, vE_var, vE_bin, vE_neg, vE_not, vE_and, vE_or, vE_cmp, vE_chain, vE_ite, vE_tup, vE_lst, vE_dnew, vE_dnewT, vE_ddisT, vE_dget, vE_fld, vE_new, vE_mcall, vS_fset, vE_idx, vE_slc, vE_call, vE_bf, vE_meth, vE_comp, vE_dcomp, vO_none, vO_some, vC_none, vC_some, vA_nil, vA_cons, vI_rng1, vI_rng2, vS_expr, vS_asg, vS_par, vS_ret, vS_ifs, vS_whl, vS_for, vS_raise, vS_pass, vS_brk, vS_cont, vB_nil, vB_cons, vI_each, vI_enum, vI_zip, vS_asgIx, vS_aug, each_tup, each_ref, enum_tup, enum_ref, zip_tup, zip_ref, aug_add, aug_sub, tg_name, tg_nil, tg_cons, o_add, o_addT, o_addL, o_addS, o_sub, o_mul, o_mulT, o_neB, o_isnotB, o_isB, o_fdiv, o_mod, o_pow, o_eqI, o_neI, o_lt, o_le, o_gt, o_ge, o_is, o_isnot, o_in, o_notin, f_abs, f_str, f_int, f_isi, f_len, f_tuple, f_list, asInt_int, ty_append, ty_extend, ty_update, ty_count, ty_index, Lit.d, truth_bl, truth_non, truth_int, truth_tup, seqD_tup, lenD_tup, tyD_bl, tyD_int, tyD_str, tyD_non, tyD_tup, List.getElem?_cons_zero, List.getElem?_cons_succ, List.set_cons_zero, List.set_cons_succ, Option.some.injEq, exists_eq_left', List.map_cons, List.map_nil, List.cons_append, List.nil_append, List.length_cons, List.length_nil, List.replicate, setAll, wipeD, if_true, if_false, Bool.false_eq_true]
  simp only [b_drops_5, vE_lit, vE_var, vE_bin, vE_neg, vE_not, vE_and, vE_or, vE_cmp, vE_chain, vE_ite, vE_tup, vE_lst, vE_dnew, vE_dnewT, vE_ddisT, vE_dget, vE_fld, vE_new, vE_mcall, vS_fset, vE_idx, vE_slc, vE_call, vE_bf, vE_meth, vE_comp, vE_dcomp, vO_none, vO_some, vC_none, vC_some, vA_nil, vA_cons, vI_rng1, vI_rng2, vS_expr, vS_asg, vS_par, vS_ret, vS_ifs, vS_whl, vS_for, vS_raise, vS_pass, vS_brk, vS_cont, vB_nil, vB_cons, vI_each, vI_enum, vI_zip, vS_asgIx, vS_aug, each_tup, each_ref, enum_tup, enum_ref, zip_tup, zip_ref, aug_add, aug_sub, tg_name, tg_nil, tg_cons, o_add, o_addT, o_addL, o_addS, o_sub, o_mul, o_mulT, o_neB, o_isnotB, o_isB, o_fdiv, o_mod, o_pow, o_eqI, o_neI, o_lt, o_le, o_gt, o_ge, o_is, o_isnot, o_in, o_notin, f_abs, f_str, f_int, f_isi, f_len, f_tuple, f_list, asInt_int, ty_append, ty_extend, ty_update, ty_count, ty_index, Lit.d, truth_bl, truth_non, truth_int, truth_tup, seqD_tup, lenD_tup, tyD_bl, tyD_int, tyD_str, tyD_non, tyD_tup, List.getElem?_cons_zero, List.getElem?_cons_succ, List.set_cons_zero, List.set_cons_succ, Option.some.injEq, exists_eq_left', List.map_cons, List.map_nil, List.cons_append, List.nil_append, List.length_cons, List.length_nil, List.replicate, setAll, wipeD, if_true, if_false, Bool.false_eq_true]
  exact ⟨_, seqD_lst hp, by decide, q h3 ((e1.trans e2).trans e3)⟩
theorem sp_any {a c r : Nat} {xs : List D} (hh : HandAt h a c) (hr : h r = some (.lst xs)) (n : r ≠ a) (h0 : 0 < xs.length) (hx : xs.length < 1000000) (q : ∀ x h', x ∈ xs → HandAt h' a c → ExtB a h h' → Q x h') : wpF fn__law_any [.ref a, .ref r] h X Q := by
  refine vF_to ?_
  simp only [fn__law_any, b__law_any_1, vF_mk, vE_lit, vE_var, vE_bin, vE_neg, vE_not, vE_and, vE_or, vE_cmp, vE_chain, vE_ite, vE_tup, vE_lst, vE_dnew, vE_dnewT, vE_ddisT, vE_dget, vE_fld, vE_new, vE_mcall, vS_fset, vE_idx, vE_slc, vE_call, vE_bf, vE_meth, vE_comp, vE_dcomp, vO_none, vO_some, vC_none, vC_some, vA_nil, vA_cons, vI_rng1, vI_rng2, vS_expr, vS_asg, vS_par, vS_ret, vS_ifs, vS_whl, vS_for, vS_raise, vS_pass, vS_brk, vS_cont, vB_nil, vB_cons, vI_each, vI_enum, vI_zip, vS_asgIx, vS_aug, each_tup, each_ref, enum_tup, enum_ref, zip_tup, zip_ref, aug_add, aug_sub, tg_name, tg_nil, tg_cons, o_add, o_addT, o_addL, o_addS, o_sub, o_mul, o_mulT, o_neB, o_isnotB, o_isB, o_fdiv, o_mod, o_pow, o_eqI, o_neI, o_lt, o_le, o_gt, o_ge, o_is, o_isnot, o_in, o_notin, f_abs, f_str, f_int, f_isi, f_len, f_tuple, f_list, asInt_int, ty_append, ty_extend, ty_update, ty_count, ty_index, Lit.d, truth_bl, truth_non, truth_int, truth_tup, seqD_tup, lenD_tup, tyD_bl, tyD_int, tyD_str, tyD_non, tyD_tup, List.getElem?_cons_zero, List.getElem?_cons_succ, List.set_cons_zero, List.set_cons_succ, Option.some.injEq, exists_eq_left', List.map_cons, List.map_nil, List.cons_append, List.nil_append, List.length_cons, List.length_nil, List.replicate, setAll, wipeD, if_true, if_false, Bool.false_eq_true, lenD_lst hr]
  refine ⟨trivial, vF_of <| sp_draw hh (by omega) (by omega) fun d h2 d0 d1 hh2 e2 => ?_⟩
  rw [ix_lst (e2 _ _ n hr)]
  obtain ⟨x, e3, e4⟩ := atI_ok d0 d1
  exact ⟨x, e3, q x h2 (List.mem_of_getElem? e4) hh2 e2⟩
end
end Mp
namespace Mp
theorem pl_optH (x : Option (List Nat)) : pl 20 (optH x) = true := by
  cases x with
  | none => rfl
  | some r => exact enc_ha.p r
theorem pl_optI (x : Option Nat) : pl 20 (optI x) = true := by cases x <;> rfl
theorem row_comp {h : Hh} {r : List Nat} {p : Nat} {σ : En} {turn : D → En → Hh → (En → Hh → Prop) → Prop} {fin : En → Hh → Prop} (hp : h p = none) (hl : r.length ≤ 1000)
    (ht : ∀ (s : Nat) h2 (k : En → Hh → Prop), (∃ acc, h2 p = some (.lst acc) ∧ acc.length < sz ∧ k σ (up h2 p (.lst (acc ++ [plD (false, s)])))) → turn (.int s) σ h2 k)
    (hfin : ∀ h', Ext h h' → h' p = some (.lst (r.map fun s => plD (false, s))) → fin σ h') : itr [] turn fin (r.map fun n : Nat => D.int n) σ (up h p (.lst [])) := by
  refine lc_map hp (by rw [List.length_map]; omega) (fun x => match x with | .int i => plD (false, i.toNat) | _ => .non) (fun h' _ => GOk_nil h') ?_ ?_
  · intro x h2 k hx e hk
    obtain ⟨s, _, rfl⟩ := List.mem_map.mp hx
    exact ht s h2 k (hk h2 (.refl _))
  · intro h' e hp'
    refine hfin h' e ?_
    rw [hp', List.map_map]
    rfl
theorem rest_ok {b : Bd} {p : Bool × Nat} (hmem : p ∈ restL b) : plOk b.cups b.sw.length p ∧ isRest b p := by
  have okp : plOk b.cups b.sw.length p := by
    unfold restL at hmem
    rcases List.mem_append.mp hmem with hm | hm
    · obtain ⟨c, hc, rfl⟩ := List.mem_map.mp hm
      exact List.mem_range.mp hc
    · obtain ⟨t, ht, rfl⟩ := List.mem_map.mp hm
      unfold lostL at ht
      exact List.mem_range.mp (List.mem_filter.mp ht).1
  exact ⟨okp, (rest_mem okp).mp hmem⟩
theorem law_pure (ns : List Int) (hl : ns.length ≤ 63) : wpF fn_law [.lst (ns.map .int)] (fun _ => none) (fun _ _ => False) (fun d _ => d = .bl true) := by
  refine vF_to ?_
  simp only [fn_law, b_law_1, vF_mk, vE_lit, vE_var, vE_bin, vE_neg, vE_not, vE_and, vE_or, vE_cmp, vE_chain, vE_ite, vE_tup, vE_lst, vE_dnew, vE_dnewT, vE_ddisT, vE_dget, vE_fld, vE_new, vE_mcall, vS_fset, vE_idx, vE_slc, vE_call, vE_bf, vE_meth, vE_comp, vE_dcomp, vO_none, vO_some, vC_none, vC_some, vA_nil, vA_cons, vI_rng1, vI_rng2, vS_expr, vS_asg, vS_par, vS_ret, vS_ifs, vS_whl, vS_for, vS_raise, vS_pass, vS_brk, vS_cont, vB_nil, vB_cons, vI_each, vI_enum, vI_zip, vS_asgIx, vS_aug, each_tup, each_ref, enum_tup, enum_ref, zip_tup, zip_ref, aug_add, aug_sub, tg_name, tg_nil, tg_cons, o_add, o_addT, o_addL, o_addS, o_sub, o_mul, o_mulT, o_neB, o_isnotB, o_isB, o_fdiv, o_mod, o_pow, o_eqI, o_neI, o_lt, o_le, o_gt, o_ge, o_is, o_isnot, o_in, o_notin, f_abs, f_str, f_int, f_isi, f_len, f_tuple, f_list, asInt_int, ty_append, ty_extend, ty_update, ty_count, ty_index, Lit.d, truth_bl, truth_non, truth_int, truth_tup, seqD_tup, lenD_tup, tyD_bl, tyD_int, tyD_str, tyD_non, tyD_tup, List.getElem?_cons_zero, List.getElem?_cons_succ, List.set_cons_zero, List.set_cons_succ, Option.some.injEq, exists_eq_left', List.map_cons, List.map_nil, List.cons_append, List.nil_append, List.length_cons, List.length_nil, List.replicate, setAll, wipeD, if_true, if_false, Bool.false_eq_true]
  refine ⟨trivial, vF_of <| sp_hand (by omega) fun a c h1 hh1 => ?_⟩
  simp only [b_law_2, vE_lit, vE_var, vE_bin, vE_neg, vE_not, vE_and, vE_or, vE_cmp, vE_chain, vE_ite, vE_tup, vE_lst, vE_dnew, vE_dnewT, vE_ddisT, vE_dget, vE_fld, vE_new, vE_mcall, vS_fset, vE_idx, vE_slc, vE_call, vE_bf, vE_meth, vE_comp, vE_dcomp, vO_none, vO_some, vC_none, vC_some, vA_nil, vA_cons, vI_rng1, vI_rng2, vS_expr, vS_asg, vS_par, vS_ret, vS_ifs, vS_whl, vS_for, vS_raise, vS_pass, vS_brk, vS_cont, vB_nil, vB_cons, vI_each, vI_enum, vI_zip, vS_asgIx, vS_aug, each_tup, each_ref, enum_tup, enum_ref, zip_tup, zip_ref, aug_add, aug_sub, tg_name, tg_nil, tg_cons, o_add, o_addT, o_addL, o_addS, o_sub, o_mul, o_mulT, o_neB, o_isnotB, o_isB, o_fdiv, o_mod, o_pow, o_eqI, o_neI, o_lt, o_le, o_gt, o_ge, o_is, o_isnot, o_in, o_notin, f_abs, f_str, f_int, f_isi, f_len, f_tuple, f_list, asInt_int, ty_append, ty_extend, ty_update, ty_count, ty_index, Lit.d, truth_bl, truth_non, truth_int, truth_tup, seqD_tup, lenD_tup, tyD_bl, tyD_int, tyD_str, tyD_non, tyD_tup, List.getElem?_cons_zero, List.getElem?_cons_succ, List.set_cons_zero, List.set_cons_succ, Option.some.injEq, exists_eq_left', List.map_cons, List.map_nil, List.cons_append, List.nil_append, List.length_cons, List.length_nil, List.replicate, setAll, wipeD, if_true, if_false, Bool.false_eq_true]
  refine ⟨by decide, by decide, ?_⟩
  refine itr_inv (fun i σ' h' => (∃ o2 o3 o4 o5 o6 o7 o8 o9 o10 o11, σ' = [some (.lst (ns.map .int)), some (.ref a), o2, o3, o4, o5, o6, o7, o8, o9, o10, o11, none]) ∧ HandAt h' a c) (fun _ _ h _ => GOk_nil h) ?_ ?_ ⟨⟨_, _, _, _, _, _, _, _, _, _, rfl⟩, hh1⟩
  · rintro i x σ' h' k hx ⟨⟨o2, o3, o4, o5, o6, o7, o8, o9, o10, o11, rfl⟩, hh⟩ hk
    simp only [b_law_3, vE_lit, vE_var, vE_bin, vE_neg, vE_not, vE_and, vE_or, vE_cmp, vE_chain, vE_ite, vE_tup, vE_lst, vE_dnew, vE_dnewT, vE_ddisT, vE_dget, vE_fld, vE_new, vE_mcall, vS_fset, vE_idx, vE_slc, vE_call, vE_bf, vE_meth, vE_comp, vE_dcomp, vO_none, vO_some, vC_none, vC_some, vA_nil, vA_cons, vI_rng1, vI_rng2, vS_expr, vS_asg, vS_par, vS_ret, vS_ifs, vS_whl, vS_for, vS_raise, vS_pass, vS_brk, vS_cont, vB_nil, vB_cons, vI_each, vI_enum, vI_zip, vS_asgIx, vS_aug, each_tup, each_ref, enum_tup, enum_ref, zip_tup, zip_ref, aug_add, aug_sub, tg_name, tg_nil, tg_cons, o_add, o_addT, o_addL, o_addS, o_sub, o_mul, o_mulT, o_neB, o_isnotB, o_isB, o_fdiv, o_mod, o_pow, o_eqI, o_neI, o_lt, o_le, o_gt, o_ge, o_is, o_isnot, o_in, o_notin, f_abs, f_str, f_int, f_isi, f_len, f_tuple, f_list, asInt_int, ty_append, ty_extend, ty_update, ty_count, ty_index, Lit.d, truth_bl, truth_non, truth_int, truth_tup, seqD_tup, lenD_tup, tyD_bl, tyD_int, tyD_str, tyD_non, tyD_tup, List.getElem?_cons_zero, List.getElem?_cons_succ, List.set_cons_zero, List.set_cons_succ, Option.some.injEq, exists_eq_left', List.map_cons, List.map_nil, List.cons_append, List.nil_append, List.length_cons, List.length_nil, List.replicate, setAll, wipeD, if_true, if_false, Bool.false_eq_true]
    refine vF_of <| sp_board hh (by decide) (by decide) fun b h2 hb hh2 e2 => ?_
    have hb : b.Ok 3 4 3 := hb
    have hR := rests_of hb
    have hm : manyL b.sw ≤ 81 := Nat.le_trans (many_le b.sw 3 fun ex hx => (hb.ex ex hx).2.1) (Nat.pow_le_pow_right (by decide) hb.s1)
    have hn := hb.s1
    simp only [b_law_4, vE_lit, vE_var, vE_bin, vE_neg, vE_not, vE_and, vE_or, vE_cmp, vE_chain, vE_ite, vE_tup, vE_lst, vE_dnew, vE_dnewT, vE_ddisT, vE_dget, vE_fld, vE_new, vE_mcall, vS_fset, vE_idx, vE_slc, vE_call, vE_bf, vE_meth, vE_comp, vE_dcomp, vO_none, vO_some, vC_none, vC_some, vA_nil, vA_cons, vI_rng1, vI_rng2, vS_expr, vS_asg, vS_par, vS_ret, vS_ifs, vS_whl, vS_for, vS_raise, vS_pass, vS_brk, vS_cont, vB_nil, vB_cons, vI_each, vI_enum, vI_zip, vS_asgIx, vS_aug, each_tup, each_ref, enum_tup, enum_ref, zip_tup, zip_ref, aug_add, aug_sub, tg_name, tg_nil, tg_cons, o_add, o_addT, o_addL, o_addS, o_sub, o_mul, o_mulT, o_neB, o_isnotB, o_isB, o_fdiv, o_mod, o_pow, o_eqI, o_neI, o_lt, o_le, o_gt, o_ge, o_is, o_isnot, o_in, o_notin, f_abs, f_str, f_int, f_isi, f_len, f_tuple, f_list, asInt_int, ty_append, ty_extend, ty_update, ty_count, ty_index, Lit.d, truth_bl, truth_non, truth_int, truth_tup, seqD_tup, lenD_tup, tyD_bl, tyD_int, tyD_str, tyD_non, tyD_tup, List.getElem?_cons_zero, List.getElem?_cons_succ, List.set_cons_zero, List.set_cons_succ, Option.some.injEq, exists_eq_left', List.map_cons, List.map_nil, List.cons_append, List.nil_append, List.length_cons, List.length_nil, List.replicate, setAll, wipeD, if_true, if_false, Bool.false_eq_true]
    refine vF_of <| sp_hands hh2 hb (by decide) (by decide) fun hs h3 ho hh3 e3 => ?_
    have s0 := hb.s0
    obtain ⟨B, hB⟩ : ∃ B, bdD b = B := ⟨_, rfl⟩
    have hB2 : opIx B (.int 1) = opIx (bdD b) (.int 1) := by rw [hB]
    simp only [bdD, ix_tup, atI_1, Option.some.injEq, exists_eq_left', o_add, o_addT, o_addL, o_addS, o_sub, o_mul, o_mulT, o_neB, o_isnotB, o_isB, o_fdiv, o_mod, o_pow, o_eqI, o_neI, o_lt, o_le, o_gt, o_ge, o_is, o_isnot, o_in, o_notin, f_abs, f_str, f_int, f_isi, f_len, f_tuple, f_list, asInt_int, ty_append, ty_extend, ty_update, ty_count, ty_index, Lit.d, truth_bl, truth_non, truth_int, truth_tup, seqD_tup, lenD_tup, tyD_bl, tyD_int, tyD_str, tyD_non, tyD_tup, List.getElem?_cons_zero, List.getElem?_cons_succ, List.set_cons_zero, List.set_cons_succ, Option.some.injEq, exists_eq_left', List.map_cons, List.map_nil, List.cons_append, List.nil_append, List.length_cons, List.length_nil, List.replicate, setAll, wipeD, if_true, if_false, Bool.false_eq_true, List.length_map]
    refine vF_of <| sp_draw hh3 (by omega) (by omega) fun d h4 d0 d1 hh4 e4 => ⟨trivial, ?_⟩
    obtain ⟨s, rfl⟩ : ∃ s : Nat, d = s := ⟨d.toNat, by omega⟩
    have hs' : s < b.sw.length := by omega
    rw [show D.tup [D.int ↑b.cups, D.tup (List.map exD b.sw)] = bdD b from rfl]
    simp only [b_law_5, vE_lit, vE_var, vE_bin, vE_neg, vE_not, vE_and, vE_or, vE_cmp, vE_chain, vE_ite, vE_tup, vE_lst, vE_dnew, vE_dnewT, vE_ddisT, vE_dget, vE_fld, vE_new, vE_mcall, vS_fset, vE_idx, vE_slc, vE_call, vE_bf, vE_meth, vE_comp, vE_dcomp, vO_none, vO_some, vC_none, vC_some, vA_nil, vA_cons, vI_rng1, vI_rng2, vS_expr, vS_asg, vS_par, vS_ret, vS_ifs, vS_whl, vS_for, vS_raise, vS_pass, vS_brk, vS_cont, vB_nil, vB_cons, vI_each, vI_enum, vI_zip, vS_asgIx, vS_aug, each_tup, each_ref, enum_tup, enum_ref, zip_tup, zip_ref, aug_add, aug_sub, tg_name, tg_nil, tg_cons, o_add, o_addT, o_addL, o_addS, o_sub, o_mul, o_mulT, o_neB, o_isnotB, o_isB, o_fdiv, o_mod, o_pow, o_eqI, o_neI, o_lt, o_le, o_gt, o_ge, o_is, o_isnot, o_in, o_notin, f_abs, f_str, f_int, f_isi, f_len, f_tuple, f_list, asInt_int, ty_append, ty_extend, ty_update, ty_count, ty_index, Lit.d, truth_bl, truth_non, truth_int, truth_tup, seqD_tup, lenD_tup, tyD_bl, tyD_int, tyD_str, tyD_non, tyD_tup, List.getElem?_cons_zero, List.getElem?_cons_succ, List.set_cons_zero, List.set_cons_succ, Option.some.injEq, exists_eq_left', List.map_cons, List.map_nil, List.cons_append, List.nil_append, List.length_cons, List.length_nil, List.replicate, setAll, wipeD, if_true, if_false, Bool.false_eq_true]
    refine vF_of <| sp__law_going hb hR ho (by omega) fun oo rr ee h5 f1 f2 f3 e5 g1 g2 g3 => ?_
    simp only [tg_cons, tg_name, tg_nil, vE_lit, vE_var, vE_bin, vE_neg, vE_not, vE_and, vE_or, vE_cmp, vE_chain, vE_ite, vE_tup, vE_lst, vE_dnew, vE_dnewT, vE_ddisT, vE_dget, vE_fld, vE_new, vE_mcall, vS_fset, vE_idx, vE_slc, vE_call, vE_bf, vE_meth, vE_comp, vE_dcomp, vO_none, vO_some, vC_none, vC_some, vA_nil, vA_cons, vI_rng1, vI_rng2, vS_expr, vS_asg, vS_par, vS_ret, vS_ifs, vS_whl, vS_for, vS_raise, vS_pass, vS_brk, vS_cont, vB_nil, vB_cons, vI_each, vI_enum, vI_zip, vS_asgIx, vS_aug, each_tup, each_ref, enum_tup, enum_ref, zip_tup, zip_ref, aug_add, aug_sub, tg_name, tg_nil, tg_cons, o_add, o_addT, o_addL, o_addS, o_sub, o_mul, o_mulT, o_neB, o_isnotB, o_isB, o_fdiv, o_mod, o_pow, o_eqI, o_neI, o_lt, o_le, o_gt, o_ge, o_is, o_isnot, o_in, o_notin, f_abs, f_str, f_int, f_isi, f_len, f_tuple, f_list, asInt_int, ty_append, ty_extend, ty_update, ty_count, ty_index, Lit.d, truth_bl, truth_non, truth_int, truth_tup, seqD_tup, lenD_tup, tyD_bl, tyD_int, tyD_str, tyD_non, tyD_tup, List.getElem?_cons_zero, List.getElem?_cons_succ, List.set_cons_zero, List.set_cons_succ, Option.some.injEq, exists_eq_left', List.map_cons, List.map_nil, List.cons_append, List.nil_append, List.length_cons, List.length_nil, List.replicate, setAll, wipeD, if_true, if_false, Bool.false_eq_true]
    have I := fin_inv hR ho
    have hh5 := hh4.ext e5
    have noa : oo ≠ a := (hh4.ne f1).1.symm
    have nra : rr ≠ a := (hh4.ne f2).1.symm
    simp only [b_law_6, vE_lit, vE_var, vE_bin, vE_neg, vE_not, vE_and, vE_or, vE_cmp, vE_chain, vE_ite, vE_tup, vE_lst, vE_dnew, vE_dnewT, vE_ddisT, vE_dget, vE_fld, vE_new, vE_mcall, vS_fset, vE_idx, vE_slc, vE_call, vE_bf, vE_meth, vE_comp, vE_dcomp, vO_none, vO_some, vC_none, vC_some, vA_nil, vA_cons, vI_rng1, vI_rng2, vS_expr, vS_asg, vS_par, vS_ret, vS_ifs, vS_whl, vS_for, vS_raise, vS_pass, vS_brk, vS_cont, vB_nil, vB_cons, vI_each, vI_enum, vI_zip, vS_asgIx, vS_aug, each_tup, each_ref, enum_tup, enum_ref, zip_tup, zip_ref, aug_add, aug_sub, tg_name, tg_nil, tg_cons, o_add, o_addT, o_addL, o_addS, o_sub, o_mul, o_mulT, o_neB, o_isnotB, o_isB, o_fdiv, o_mod, o_pow, o_eqI, o_neI, o_lt, o_le, o_gt, o_ge, o_is, o_isnot, o_in, o_notin, f_abs, f_str, f_int, f_isi, f_len, f_tuple, f_list, asInt_int, ty_append, ty_extend, ty_update, ty_count, ty_index, Lit.d, truth_bl, truth_non, truth_int, truth_tup, seqD_tup, lenD_tup, tyD_bl, tyD_int, tyD_str, tyD_non, tyD_tup, List.getElem?_cons_zero, List.getElem?_cons_succ, List.set_cons_zero, List.set_cons_succ, Option.some.injEq, exists_eq_left', List.map_cons, List.map_nil, List.cons_append, List.nil_append, List.length_cons, List.length_nil, List.replicate, setAll, wipeD, if_true, if_false, Bool.false_eq_true]
    refine vF_of <| sp__law_rests hb (by decide) (by decide) (by decide) fun r h6 e6 hr0 hr1 => ⟨_, .inl hr1, ?_⟩
    refine itr_inv (fun i σ' h' => (∃ o4 o5 o11, σ' = [some (.lst (ns.map .int)), some (.ref a), some x, some (bdD b), o4, o5, some (haD hs), some (.int s), some (.ref oo), some (.ref rr), some (.ref ee), o11, none]) ∧ Ext h6 h') (fun _ _ h' ⟨_, e⟩ => fun z hz => by
        obtain rfl : z = (r, (restL b).map plD) := by simpa using hz
        exact .inl (e _ _ hr1)) ?_ ?_ ⟨⟨_, _, _, rfl⟩, .refl _⟩
    · rintro j y σ' h' k2 hy ⟨⟨o4, o5, o11, rfl⟩, e7⟩ hk2
      rw [List.getElem?_map] at hy
      obtain ⟨pp, hpp, ey⟩ := Option.map_eq_some_iff.mp hy
      subst ey
      obtain ⟨okp, hr⟩ := rest_ok (List.mem_of_getElem? hpp)
      simp only [vE_lit, vE_var, vE_bin, vE_neg, vE_not, vE_and, vE_or, vE_cmp, vE_chain, vE_ite, vE_tup, vE_lst, vE_dnew, vE_dnewT, vE_ddisT, vE_dget, vE_fld, vE_new, vE_mcall, vS_fset, vE_idx, vE_slc, vE_call, vE_bf, vE_meth, vE_comp, vE_dcomp, vO_none, vO_some, vC_none, vC_some, vA_nil, vA_cons, vI_rng1, vI_rng2, vS_expr, vS_asg, vS_par, vS_ret, vS_ifs, vS_whl, vS_for, vS_raise, vS_pass, vS_brk, vS_cont, vB_nil, vB_cons, vI_each, vI_enum, vI_zip, vS_asgIx, vS_aug, each_tup, each_ref, enum_tup, enum_ref, zip_tup, zip_ref, aug_add, aug_sub, tg_name, tg_nil, tg_cons, o_add, o_addT, o_addL, o_addS, o_sub, o_mul, o_mulT, o_neB, o_isnotB, o_isB, o_fdiv, o_mod, o_pow, o_eqI, o_neI, o_lt, o_le, o_gt, o_ge, o_is, o_isnot, o_in, o_notin, f_abs, f_str, f_int, f_isi, f_len, f_tuple, f_list, asInt_int, ty_append, ty_extend, ty_update, ty_count, ty_index, Lit.d, truth_bl, truth_non, truth_int, truth_tup, seqD_tup, lenD_tup, tyD_bl, tyD_int, tyD_str, tyD_non, tyD_tup, List.getElem?_cons_zero, List.getElem?_cons_succ, List.set_cons_zero, List.set_cons_succ, Option.some.injEq, exists_eq_left', List.map_cons, List.map_nil, List.cons_append, List.nil_append, List.length_cons, List.length_nil, List.replicate, setAll, wipeD, if_true, if_false, Bool.false_eq_true]
      simp only [b_law_7, vE_lit, vE_var, vE_bin, vE_neg, vE_not, vE_and, vE_or, vE_cmp, vE_chain, vE_ite, vE_tup, vE_lst, vE_dnew, vE_dnewT, vE_ddisT, vE_dget, vE_fld, vE_new, vE_mcall, vS_fset, vE_idx, vE_slc, vE_call, vE_bf, vE_meth, vE_comp, vE_dcomp, vO_none, vO_some, vC_none, vC_some, vA_nil, vA_cons, vI_rng1, vI_rng2, vS_expr, vS_asg, vS_par, vS_ret, vS_ifs, vS_whl, vS_for, vS_raise, vS_pass, vS_brk, vS_cont, vB_nil, vB_cons, vI_each, vI_enum, vI_zip, vS_asgIx, vS_aug, each_tup, each_ref, enum_tup, enum_ref, zip_tup, zip_ref, aug_add, aug_sub, tg_name, tg_nil, tg_cons, o_add, o_addT, o_addL, o_addS, o_sub, o_mul, o_mulT, o_neB, o_isnotB, o_isB, o_fdiv, o_mod, o_pow, o_eqI, o_neI, o_lt, o_le, o_gt, o_ge, o_is, o_isnot, o_in, o_notin, f_abs, f_str, f_int, f_isi, f_len, f_tuple, f_list, asInt_int, ty_append, ty_extend, ty_update, ty_count, ty_index, Lit.d, truth_bl, truth_non, truth_int, truth_tup, seqD_tup, lenD_tup, tyD_bl, tyD_int, tyD_str, tyD_non, tyD_tup, List.getElem?_cons_zero, List.getElem?_cons_succ, List.set_cons_zero, List.set_cons_succ, Option.some.injEq, exists_eq_left', List.map_cons, List.map_nil, List.cons_append, List.nil_append, List.length_cons, List.length_nil, List.replicate, setAll, wipeD, if_true, if_false, Bool.false_eq_true]
      refine vF_of <| sp_first_drop hb hR (by omega) hs' ho okp hr fun h8 e8 => ?_
      refine vF_of <| sp__law_first hb hR (by omega) hs' ho fun h9 e9 => ?_
      rw [o_neP (pl_optI _) (pl_optI _)]
      simp only [decide_true, Bool.not_true, truth_bl, Option.some.injEq, exists_eq_left', Bool.false_eq_true, if_false, vB_nil]
      simp only [b_law_9, vE_lit, vE_var, vE_bin, vE_neg, vE_not, vE_and, vE_or, vE_cmp, vE_chain, vE_ite, vE_tup, vE_lst, vE_dnew, vE_dnewT, vE_ddisT, vE_dget, vE_fld, vE_new, vE_mcall, vS_fset, vE_idx, vE_slc, vE_call, vE_bf, vE_meth, vE_comp, vE_dcomp, vO_none, vO_some, vC_none, vC_some, vA_nil, vA_cons, vI_rng1, vI_rng2, vS_expr, vS_asg, vS_par, vS_ret, vS_ifs, vS_whl, vS_for, vS_raise, vS_pass, vS_brk, vS_cont, vB_nil, vB_cons, vI_each, vI_enum, vI_zip, vS_asgIx, vS_aug, each_tup, each_ref, enum_tup, enum_ref, zip_tup, zip_ref, aug_add, aug_sub, tg_name, tg_nil, tg_cons, o_add, o_addT, o_addL, o_addS, o_sub, o_mul, o_mulT, o_neB, o_isnotB, o_isB, o_fdiv, o_mod, o_pow, o_eqI, o_neI, o_lt, o_le, o_gt, o_ge, o_is, o_isnot, o_in, o_notin, f_abs, f_str, f_int, f_isi, f_len, f_tuple, f_list, asInt_int, ty_append, ty_extend, ty_update, ty_count, ty_index, Lit.d, truth_bl, truth_non, truth_int, truth_tup, seqD_tup, lenD_tup, tyD_bl, tyD_int, tyD_str, tyD_non, tyD_tup, List.getElem?_cons_zero, List.getElem?_cons_succ, List.set_cons_zero, List.set_cons_succ, Option.some.injEq, exists_eq_left', List.map_cons, List.map_nil, List.cons_append, List.nil_append, List.length_cons, List.length_nil, List.replicate, setAll, wipeD, if_true, if_false, Bool.false_eq_true]
      refine vF_of <| sp_shortest_row hb hR ho (by omega) okp hr fun h10 e10 => ?_
      have e610 := ((e7.trans e8).trans e9).trans e10
      have g3' := e610 _ _ (e6 _ _ g3)
      simp only [b_law_10, vE_lit, vE_var, vE_bin, vE_neg, vE_not, vE_and, vE_or, vE_cmp, vE_chain, vE_ite, vE_tup, vE_lst, vE_dnew, vE_dnewT, vE_ddisT, vE_dget, vE_fld, vE_new, vE_mcall, vS_fset, vE_idx, vE_slc, vE_call, vE_bf, vE_meth, vE_comp, vE_dcomp, vO_none, vO_some, vC_none, vC_some, vA_nil, vA_cons, vI_rng1, vI_rng2, vS_expr, vS_asg, vS_par, vS_ret, vS_ifs, vS_whl, vS_for, vS_raise, vS_pass, vS_brk, vS_cont, vB_nil, vB_cons, vI_each, vI_enum, vI_zip, vS_asgIx, vS_aug, each_tup, each_ref, enum_tup, enum_ref, zip_tup, zip_ref, aug_add, aug_sub, tg_name, tg_nil, tg_cons, o_add, o_addT, o_addL, o_addS, o_sub, o_mul, o_mulT, o_neB, o_isnotB, o_isB, o_fdiv, o_mod, o_pow, o_eqI, o_neI, o_lt, o_le, o_gt, o_ge, o_is, o_isnot, o_in, o_notin, f_abs, f_str, f_int, f_isi, f_len, f_tuple, f_list, asInt_int, ty_append, ty_extend, ty_update, ty_count, ty_index, Lit.d, truth_bl, truth_non, truth_int, truth_tup, seqD_tup, lenD_tup, tyD_bl, tyD_int, tyD_str, tyD_non, tyD_tup, List.getElem?_cons_zero, List.getElem?_cons_succ, List.set_cons_zero, List.set_cons_succ, Option.some.injEq, exists_eq_left', List.map_cons, List.map_nil, List.cons_append, List.nil_append, List.length_cons, List.length_nil, List.replicate, setAll, wipeD, if_true, if_false, Bool.false_eq_true]
      refine ⟨isDct_dcT g3', ?_⟩
      rw [getD_dcT g3', ends_look]
      refine ⟨key_pl _, _, rfl, ?_⟩
      rw [show ((List.lookup pp (fin b hs).2).map haD).getD .non = optH ((fin b hs).2.lookup pp) from rfl, o_neP (pl_optH _) (pl_optH _)]
      simp only [decide_true, Bool.not_true, truth_bl, Option.some.injEq, exists_eq_left', Bool.false_eq_true, if_false, vB_nil]
      simp only [b_law_12, vE_lit, vE_var, vE_bin, vE_neg, vE_not, vE_and, vE_or, vE_cmp, vE_chain, vE_ite, vE_tup, vE_lst, vE_dnew, vE_dnewT, vE_ddisT, vE_dget, vE_fld, vE_new, vE_mcall, vS_fset, vE_idx, vE_slc, vE_call, vE_bf, vE_meth, vE_comp, vE_dcomp, vO_none, vO_some, vC_none, vC_some, vA_nil, vA_cons, vI_rng1, vI_rng2, vS_expr, vS_asg, vS_par, vS_ret, vS_ifs, vS_whl, vS_for, vS_raise, vS_pass, vS_brk, vS_cont, vB_nil, vB_cons, vI_each, vI_enum, vI_zip, vS_asgIx, vS_aug, each_tup, each_ref, enum_tup, enum_ref, zip_tup, zip_ref, aug_add, aug_sub, tg_name, tg_nil, tg_cons, o_add, o_addT, o_addL, o_addS, o_sub, o_mul, o_mulT, o_neB, o_isnotB, o_isB, o_fdiv, o_mod, o_pow, o_eqI, o_neI, o_lt, o_le, o_gt, o_ge, o_is, o_isnot, o_in, o_notin, f_abs, f_str, f_int, f_isi, f_len, f_tuple, f_list, asInt_int, ty_append, ty_extend, ty_update, ty_count, ty_index, Lit.d, truth_bl, truth_non, truth_int, truth_tup, seqD_tup, lenD_tup, tyD_bl, tyD_int, tyD_str, tyD_non, tyD_tup, List.getElem?_cons_zero, List.getElem?_cons_succ, List.set_cons_zero, List.set_cons_succ, Option.some.injEq, exists_eq_left', List.map_cons, List.map_nil, List.cons_append, List.nil_append, List.length_cons, List.length_nil, List.replicate, setAll, wipeD, if_true, if_false, Bool.false_eq_true]
      cases hlk : (fin b hs).2.lookup pp with
      | none =>
        simp only [optH, Option.map_none, Option.getD_none, isNonD, Bool.not_true, Bool.false_eq_true, if_false, truth_bl, Option.some.injEq, exists_eq_left', vB_nil]
        exact hk2 _ _ ⟨⟨_, _, _, rfl⟩, e610⟩
      | some rw1 =>
        have hl3 := row3 hR hb ho hlk
        obtain ⟨r', s', er, hs2, hr', oo2, ep⟩ := I.en _ (lookup_mem' hlk)
        have er : rw1 = r' ++ [s'] := er
        have ep : (endS b s' (follow b hs r')).1 = pp := ep
        have hall : ∀ s ∈ rw1, s < b.sw.length := fun t ht => by
          rw [er] at ht
          rcases List.mem_append.mp ht with ht | ht
          · exact hr' t ht
          · rw [List.mem_singleton.mp ht]; exact hs2
        have enn : isNonD (haD rw1) = false := rfl
        simp only [optH, Option.map_some, Option.getD_some, enn, Bool.not_false, if_true]
        rw [show haD rw1 = D.tup (rw1.map fun n : Nat => D.int n) from rfl]
        simp only [vE_lit, vE_var, vE_bin, vE_neg, vE_not, vE_and, vE_or, vE_cmp, vE_chain, vE_ite, vE_tup, vE_lst, vE_dnew, vE_dnewT, vE_ddisT, vE_dget, vE_fld, vE_new, vE_mcall, vS_fset, vE_idx, vE_slc, vE_call, vE_bf, vE_meth, vE_comp, vE_dcomp, vO_none, vO_some, vC_none, vC_some, vA_nil, vA_cons, vI_rng1, vI_rng2, vS_expr, vS_asg, vS_par, vS_ret, vS_ifs, vS_whl, vS_for, vS_raise, vS_pass, vS_brk, vS_cont, vB_nil, vB_cons, vI_each, vI_enum, vI_zip, vS_asgIx, vS_aug, each_tup, each_ref, enum_tup, enum_ref, zip_tup, zip_ref, aug_add, aug_sub, tg_name, tg_nil, tg_cons, o_add, o_addT, o_addL, o_addS, o_sub, o_mul, o_mulT, o_neB, o_isnotB, o_isB, o_fdiv, o_mod, o_pow, o_eqI, o_neI, o_lt, o_le, o_gt, o_ge, o_is, o_isnot, o_in, o_notin, f_abs, f_str, f_int, f_isi, f_len, f_tuple, f_list, asInt_int, ty_append, ty_extend, ty_update, ty_count, ty_index, Lit.d, truth_bl, truth_non, truth_int, truth_tup, seqD_tup, lenD_tup, tyD_bl, tyD_int, tyD_str, tyD_non, tyD_tup, List.getElem?_cons_zero, List.getElem?_cons_succ, List.set_cons_zero, List.set_cons_succ, Option.some.injEq, exists_eq_left', List.map_cons, List.map_nil, List.cons_append, List.nil_append, List.length_cons, List.length_nil, List.replicate, setAll, wipeD, if_true, if_false, Bool.false_eq_true]
        intro p hp
        refine row_comp hp (by omega) (fun t h2 k hk => ?_) ?_
        · try simp only [vE_lit, vE_var, vE_bin, vE_neg, vE_not, vE_and, vE_or, vE_cmp, vE_chain, vE_ite, vE_tup, vE_lst, vE_dnew, vE_dnewT, vE_ddisT, vE_dget, vE_fld, vE_new, vE_mcall, vS_fset, vE_idx, vE_slc, vE_call, vE_bf, vE_meth, vE_comp, vE_dcomp, vO_none, vO_some, vC_none, vC_some, vA_nil, vA_cons, vI_rng1, vI_rng2, vS_expr, vS_asg, vS_par, vS_ret, vS_ifs, vS_whl, vS_for, vS_raise, vS_pass, vS_brk, vS_cont, vB_nil, vB_cons, vI_each, vI_enum, vI_zip, vS_asgIx, vS_aug, each_tup, each_ref, enum_tup, enum_ref, zip_tup, zip_ref, aug_add, aug_sub, tg_name, tg_nil, tg_cons, o_add, o_addT, o_addL, o_addS, o_sub, o_mul, o_mulT, o_neB, o_isnotB, o_isB, o_fdiv, o_mod, o_pow, o_eqI, o_neI, o_lt, o_le, o_gt, o_ge, o_is, o_isnot, o_in, o_notin, f_abs, f_str, f_int, f_isi, f_len, f_tuple, f_list, asInt_int, ty_append, ty_extend, ty_update, ty_count, ty_index, Lit.d, truth_bl, truth_non, truth_int, truth_tup, seqD_tup, lenD_tup, tyD_bl, tyD_int, tyD_str, tyD_non, tyD_tup, List.getElem?_cons_zero, List.getElem?_cons_succ, List.set_cons_zero, List.set_cons_succ, Option.some.injEq, exists_eq_left', List.map_cons, List.map_nil, List.cons_append, List.nil_append, List.length_cons, List.length_nil, List.replicate, setAll, wipeD, if_true, if_false, Bool.false_eq_true]
          exact ⟨by decide, hk⟩
        · intro h11 e11 hp11
          refine ⟨_, seqD_lst hp11, ?_⟩
          refine vF_of <| sp_drops hb hR ho (by omega) hall fun h12 e12 => ?_
          simp only [ix_tup, atI_0, Option.some.injEq, exists_eq_left', o_add, o_addT, o_addL, o_addS, o_sub, o_mul, o_mulT, o_neB, o_isnotB, o_isB, o_fdiv, o_mod, o_pow, o_eqI, o_neI, o_lt, o_le, o_gt, o_ge, o_is, o_isnot, o_in, o_notin, f_abs, f_str, f_int, f_isi, f_len, f_tuple, f_list, asInt_int, ty_append, ty_extend, ty_update, ty_count, ty_index, Lit.d, truth_bl, truth_non, truth_int, truth_tup, seqD_tup, lenD_tup, tyD_bl, tyD_int, tyD_str, tyD_non, tyD_tup, List.getElem?_cons_zero, List.getElem?_cons_succ, List.set_cons_zero, List.set_cons_succ, Option.some.injEq, exists_eq_left', List.map_cons, List.map_nil, List.cons_append, List.nil_append, List.length_cons, List.length_nil, List.replicate, setAll, wipeD, if_true, if_false, Bool.false_eq_true]
          rw [er, trail_snoc, ep, List.map_append]
          refine ⟨_, L2.atI_last _ _, ?_⟩
          rw [o_neP (enc_pl.p _) (enc_pl.p _)]
          simp only [decide_true, Bool.not_true, truth_bl, Option.some.injEq, exists_eq_left', Bool.false_eq_true, if_false, vB_nil]
          exact hk2 _ _ ⟨⟨_, _, _, rfl⟩, (e610.trans e11).trans e12⟩
    · rintro σ' h' ⟨⟨o4, o5, o11, rfl⟩, e7⟩
      simp only [b_law_14, vE_lit, vE_var, vE_bin, vE_neg, vE_not, vE_and, vE_or, vE_cmp, vE_chain, vE_ite, vE_tup, vE_lst, vE_dnew, vE_dnewT, vE_ddisT, vE_dget, vE_fld, vE_new, vE_mcall, vS_fset, vE_idx, vE_slc, vE_call, vE_bf, vE_meth, vE_comp, vE_dcomp, vO_none, vO_some, vC_none, vC_some, vA_nil, vA_cons, vI_rng1, vI_rng2, vS_expr, vS_asg, vS_par, vS_ret, vS_ifs, vS_whl, vS_for, vS_raise, vS_pass, vS_brk, vS_cont, vB_nil, vB_cons, vI_each, vI_enum, vI_zip, vS_asgIx, vS_aug, each_tup, each_ref, enum_tup, enum_ref, zip_tup, zip_ref, aug_add, aug_sub, tg_name, tg_nil, tg_cons, o_add, o_addT, o_addL, o_addS, o_sub, o_mul, o_mulT, o_neB, o_isnotB, o_isB, o_fdiv, o_mod, o_pow, o_eqI, o_neI, o_lt, o_le, o_gt, o_ge, o_is, o_isnot, o_in, o_notin, f_abs, f_str, f_int, f_isi, f_len, f_tuple, f_list, asInt_int, ty_append, ty_extend, ty_update, ty_count, ty_index, Lit.d, truth_bl, truth_non, truth_int, truth_tup, seqD_tup, lenD_tup, tyD_bl, tyD_int, tyD_str, tyD_non, tyD_tup, List.getElem?_cons_zero, List.getElem?_cons_succ, List.set_cons_zero, List.set_cons_succ, Option.some.injEq, exists_eq_left', List.map_cons, List.map_nil, List.cons_append, List.nil_append, List.length_cons, List.length_nil, List.replicate, setAll, wipeD, if_true, if_false, Bool.false_eq_true]
      refine vF_of <| sp_hands_led_to hb hR ho (by omega) fun h8 e8 => ?_
      have e58 := (e6.trans e7).trans e8
      have g1' := e58 _ _ g1
      have s0' := hb.s0
      have hmm : (fin b hs).1.map (fun e => haD e.1) = ((fin b hs).1.map (·.1)).map haD := by rw [List.map_map]; rfl
      rw [hmm] at g1'
      have hfl := fin_len hR ho
      refine f_sortE (xs := (fin b hs).1.map (·.1)) enc_ha ?_ (.inl g1') (by rw [List.length_map]; omega) fun t ht => ?_
      · intro x hx
        obtain ⟨en, hen, rfl⟩ := List.mem_map.mp hx
        have := (I.ok en hen).1.1
        unfold haD
        cases q : en.1 with
        | nil => rw [q] at this; simp at this; omega
        | cons _ _ => rfl
      refine ⟨_, seqD_lst up_same, ?_⟩
      have plT : ∀ L : List (List Nat), pl 20 (.tup (L.map haD)) = true := fun L => enc_ha.pls L
      rw [o_neP (plT _) (plT _)]
      simp only [decide_true, Bool.not_true, truth_bl, Option.some.injEq, exists_eq_left', Bool.false_eq_true, if_false, vB_nil]
      have e59 := e58.trans (Ext.up (c := Cell.lst ((((fin b hs).1.map (·.1)).mergeSort (leE haD)).map haD)) ht)
      have hh9 := hh5.ext e59
      have g1'' := e59 _ _ g1
      have g2'' := e59 _ _ g2
      generalize up h8 t (Cell.lst ((((fin b hs).1.map (·.1)).mergeSort (leE haD)).map haD)) = h9 at hh9 g1'' g2'' ⊢
      simp only [b_law_16, vE_lit, vE_var, vE_bin, vE_neg, vE_not, vE_and, vE_or, vE_cmp, vE_chain, vE_ite, vE_tup, vE_lst, vE_dnew, vE_dnewT, vE_ddisT, vE_dget, vE_fld, vE_new, vE_mcall, vS_fset, vE_idx, vE_slc, vE_call, vE_bf, vE_meth, vE_comp, vE_dcomp, vO_none, vO_some, vC_none, vC_some, vA_nil, vA_cons, vI_rng1, vI_rng2, vS_expr, vS_asg, vS_par, vS_ret, vS_ifs, vS_whl, vS_for, vS_raise, vS_pass, vS_brk, vS_cont, vB_nil, vB_cons, vI_each, vI_enum, vI_zip, vS_asgIx, vS_aug, each_tup, each_ref, enum_tup, enum_ref, zip_tup, zip_ref, aug_add, aug_sub, tg_name, tg_nil, tg_cons, o_add, o_addT, o_addL, o_addS, o_sub, o_mul, o_mulT, o_neB, o_isnotB, o_isB, o_fdiv, o_mod, o_pow, o_eqI, o_neI, o_lt, o_le, o_gt, o_ge, o_is, o_isnot, o_in, o_notin, f_abs, f_str, f_int, f_isi, f_len, f_tuple, f_list, asInt_int, ty_append, ty_extend, ty_update, ty_count, ty_index, Lit.d, truth_bl, truth_non, truth_int, truth_tup, seqD_tup, lenD_tup, tyD_bl, tyD_int, tyD_str, tyD_non, tyD_tup, List.getElem?_cons_zero, List.getElem?_cons_succ, List.set_cons_zero, List.set_cons_succ, Option.some.injEq, exists_eq_left', List.map_cons, List.map_nil, List.cons_append, List.nil_append, List.length_cons, List.length_nil, List.replicate, setAll, wipeD, if_true, if_false, Bool.false_eq_true]
      refine vF_of <| sp_hands hh9 hb (by decide) (by decide) fun hs2 h10 ho2 hh10 e10 => ?_
      have g1a := e10 _ _ noa g1''
      have g2a := e10 _ _ nra g2''
      have hpos : 0 < (fin b hs).1.length := (List.getElem?_eq_some_iff.mp I.st).1
      refine vF_of <| sp_any hh10 g1a noa (by rw [List.length_map]; exact hpos) (by rw [List.length_map]; omega) fun xo h11 hxo hh11 e11 => ?_
      have g2b := e11 _ _ nra g2a
      obtain ⟨en, hen, rfl⟩ := List.mem_map.mp hxo
      have oen := (I.ok en hen).1
      refine ⟨by decide, ?_⟩
      have hall : ∀ (t : Nat) (o : D), [haD hs2, haD en.1][t]? = some o → ∃ ot, haOk b ot ∧ o = haD ot := fun t o ht => by
        rcases List.mem_cons.mp (List.mem_of_getElem? ht) with rfl | ht
        · exact ⟨_, ho2, rfl⟩
        · rw [List.mem_singleton.mp ht]; exact ⟨_, oen, rfl⟩
      refine itr_inv (fun i σ' h' => (∃ o4 o5 o11, σ' = [some (.lst (ns.map .int)), some (.ref a), some x, some (bdD b), o4, o5, some (haD hs), some (.int s), some (.ref oo), some (.ref rr), some (.ref ee), o11, none]) ∧ Ext h11 h') (fun _ _ h' _ => GOk_nil h') ?_ ?_ ⟨⟨_, _, _, rfl⟩, .refl _⟩
      · rintro j y σ' h' k2 hy ⟨⟨o4, o5, o11, rfl⟩, e12⟩ hk2
        obtain ⟨ot, oto, ey⟩ := hall j y hy
        subst ey
        simp only [vE_lit, vE_var, vE_bin, vE_neg, vE_not, vE_and, vE_or, vE_cmp, vE_chain, vE_ite, vE_tup, vE_lst, vE_dnew, vE_dnewT, vE_ddisT, vE_dget, vE_fld, vE_new, vE_mcall, vS_fset, vE_idx, vE_slc, vE_call, vE_bf, vE_meth, vE_comp, vE_dcomp, vO_none, vO_some, vC_none, vC_some, vA_nil, vA_cons, vI_rng1, vI_rng2, vS_expr, vS_asg, vS_par, vS_ret, vS_ifs, vS_whl, vS_for, vS_raise, vS_pass, vS_brk, vS_cont, vB_nil, vB_cons, vI_each, vI_enum, vI_zip, vS_asgIx, vS_aug, each_tup, each_ref, enum_tup, enum_ref, zip_tup, zip_ref, aug_add, aug_sub, tg_name, tg_nil, tg_cons, o_add, o_addT, o_addL, o_addS, o_sub, o_mul, o_mulT, o_neB, o_isnotB, o_isB, o_fdiv, o_mod, o_pow, o_eqI, o_neI, o_lt, o_le, o_gt, o_ge, o_is, o_isnot, o_in, o_notin, f_abs, f_str, f_int, f_isi, f_len, f_tuple, f_list, asInt_int, ty_append, ty_extend, ty_update, ty_count, ty_index, Lit.d, truth_bl, truth_non, truth_int, truth_tup, seqD_tup, lenD_tup, tyD_bl, tyD_int, tyD_str, tyD_non, tyD_tup, List.getElem?_cons_zero, List.getElem?_cons_succ, List.set_cons_zero, List.set_cons_succ, Option.some.injEq, exists_eq_left', List.map_cons, List.map_nil, List.cons_append, List.nil_append, List.length_cons, List.length_nil, List.replicate, setAll, wipeD, if_true, if_false, Bool.false_eq_true]
        simp only [b_law_17, vE_lit, vE_var, vE_bin, vE_neg, vE_not, vE_and, vE_or, vE_cmp, vE_chain, vE_ite, vE_tup, vE_lst, vE_dnew, vE_dnewT, vE_ddisT, vE_dget, vE_fld, vE_new, vE_mcall, vS_fset, vE_idx, vE_slc, vE_call, vE_bf, vE_meth, vE_comp, vE_dcomp, vO_none, vO_some, vC_none, vC_some, vA_nil, vA_cons, vI_rng1, vI_rng2, vS_expr, vS_asg, vS_par, vS_ret, vS_ifs, vS_whl, vS_for, vS_raise, vS_pass, vS_brk, vS_cont, vB_nil, vB_cons, vI_each, vI_enum, vI_zip, vS_asgIx, vS_aug, each_tup, each_ref, enum_tup, enum_ref, zip_tup, zip_ref, aug_add, aug_sub, tg_name, tg_nil, tg_cons, o_add, o_addT, o_addL, o_addS, o_sub, o_mul, o_mulT, o_neB, o_isnotB, o_isB, o_fdiv, o_mod, o_pow, o_eqI, o_neI, o_lt, o_le, o_gt, o_ge, o_is, o_isnot, o_in, o_notin, f_abs, f_str, f_int, f_isi, f_len, f_tuple, f_list, asInt_int, ty_append, ty_extend, ty_update, ty_count, ty_index, Lit.d, truth_bl, truth_non, truth_int, truth_tup, seqD_tup, lenD_tup, tyD_bl, tyD_int, tyD_str, tyD_non, tyD_tup, List.getElem?_cons_zero, List.getElem?_cons_succ, List.set_cons_zero, List.set_cons_succ, Option.some.injEq, exists_eq_left', List.map_cons, List.map_nil, List.cons_append, List.nil_append, List.length_cons, List.length_nil, List.replicate, setAll, wipeD, if_true, if_false, Bool.false_eq_true]
        refine vF_of <| sp_row_to hb hR ho (by omega) oto fun h13 e13 => ?_
        have e1113 := e12.trans e13
        have g2c := e1113 _ _ g2b
        simp only [b_law_18, vE_lit, vE_var, vE_bin, vE_neg, vE_not, vE_and, vE_or, vE_cmp, vE_chain, vE_ite, vE_tup, vE_lst, vE_dnew, vE_dnewT, vE_ddisT, vE_dget, vE_fld, vE_new, vE_mcall, vS_fset, vE_idx, vE_slc, vE_call, vE_bf, vE_meth, vE_comp, vE_dcomp, vO_none, vO_some, vC_none, vC_some, vA_nil, vA_cons, vI_rng1, vI_rng2, vS_expr, vS_asg, vS_par, vS_ret, vS_ifs, vS_whl, vS_for, vS_raise, vS_pass, vS_brk, vS_cont, vB_nil, vB_cons, vI_each, vI_enum, vI_zip, vS_asgIx, vS_aug, each_tup, each_ref, enum_tup, enum_ref, zip_tup, zip_ref, aug_add, aug_sub, tg_name, tg_nil, tg_cons, o_add, o_addT, o_addL, o_addS, o_sub, o_mul, o_mulT, o_neB, o_isnotB, o_isB, o_fdiv, o_mod, o_pow, o_eqI, o_neI, o_lt, o_le, o_gt, o_ge, o_is, o_isnot, o_in, o_notin, f_abs, f_str, f_int, f_isi, f_len, f_tuple, f_list, asInt_int, ty_append, ty_extend, ty_update, ty_count, ty_index, Lit.d, truth_bl, truth_non, truth_int, truth_tup, seqD_tup, lenD_tup, tyD_bl, tyD_int, tyD_str, tyD_non, tyD_tup, List.getElem?_cons_zero, List.getElem?_cons_succ, List.set_cons_zero, List.set_cons_succ, Option.some.injEq, exists_eq_left', List.map_cons, List.map_nil, List.cons_append, List.nil_append, List.length_cons, List.length_nil, List.replicate, setAll, wipeD, if_true, if_false, Bool.false_eq_true]
        refine ⟨isDct_dcT g2c, ?_⟩
        rw [getD_dcT g2c, rows_look]
        refine ⟨key_ha _, _, rfl, ?_⟩
        rw [show ((List.lookup ot (fin b hs).1).map haD).getD .non = optH ((fin b hs).1.lookup ot) from rfl, o_neP (pl_optH _) (pl_optH _)]
        simp only [decide_true, Bool.not_true, truth_bl, Option.some.injEq, exists_eq_left', Bool.false_eq_true, if_false, vB_nil]
        simp only [b_law_20, vE_lit, vE_var, vE_bin, vE_neg, vE_not, vE_and, vE_or, vE_cmp, vE_chain, vE_ite, vE_tup, vE_lst, vE_dnew, vE_dnewT, vE_ddisT, vE_dget, vE_fld, vE_new, vE_mcall, vS_fset, vE_idx, vE_slc, vE_call, vE_bf, vE_meth, vE_comp, vE_dcomp, vO_none, vO_some, vC_none, vC_some, vA_nil, vA_cons, vI_rng1, vI_rng2, vS_expr, vS_asg, vS_par, vS_ret, vS_ifs, vS_whl, vS_for, vS_raise, vS_pass, vS_brk, vS_cont, vB_nil, vB_cons, vI_each, vI_enum, vI_zip, vS_asgIx, vS_aug, each_tup, each_ref, enum_tup, enum_ref, zip_tup, zip_ref, aug_add, aug_sub, tg_name, tg_nil, tg_cons, o_add, o_addT, o_addL, o_addS, o_sub, o_mul, o_mulT, o_neB, o_isnotB, o_isB, o_fdiv, o_mod, o_pow, o_eqI, o_neI, o_lt, o_le, o_gt, o_ge, o_is, o_isnot, o_in, o_notin, f_abs, f_str, f_int, f_isi, f_len, f_tuple, f_list, asInt_int, ty_append, ty_extend, ty_update, ty_count, ty_index, Lit.d, truth_bl, truth_non, truth_int, truth_tup, seqD_tup, lenD_tup, tyD_bl, tyD_int, tyD_str, tyD_non, tyD_tup, List.getElem?_cons_zero, List.getElem?_cons_succ, List.set_cons_zero, List.set_cons_succ, Option.some.injEq, exists_eq_left', List.map_cons, List.map_nil, List.cons_append, List.nil_append, List.length_cons, List.length_nil, List.replicate, setAll, wipeD, if_true, if_false, Bool.false_eq_true]
        cases hlk : (fin b hs).1.lookup ot with
        | none =>
          simp only [optH, Option.map_none, Option.getD_none, isNonD, Bool.not_true, Bool.false_eq_true, if_false, truth_bl, Option.some.injEq, exists_eq_left', vB_nil]
          exact hk2 _ _ ⟨⟨_, _, _, rfl⟩, e1113⟩
        | some rw1 =>
          obtain ⟨_, ef, hall⟩ := I.ok _ (lookup_mem' hlk)
          have ef : follow b hs rw1 = ot := ef
          have enn : isNonD (haD rw1) = false := rfl
          simp only [optH, Option.map_some, Option.getD_some, enn, Bool.not_false, if_true]
          rw [show haD rw1 = D.tup (rw1.map fun n : Nat => D.int n) from rfl]
          simp only [vE_lit, vE_var, vE_bin, vE_neg, vE_not, vE_and, vE_or, vE_cmp, vE_chain, vE_ite, vE_tup, vE_lst, vE_dnew, vE_dnewT, vE_ddisT, vE_dget, vE_fld, vE_new, vE_mcall, vS_fset, vE_idx, vE_slc, vE_call, vE_bf, vE_meth, vE_comp, vE_dcomp, vO_none, vO_some, vC_none, vC_some, vA_nil, vA_cons, vI_rng1, vI_rng2, vS_expr, vS_asg, vS_par, vS_ret, vS_ifs, vS_whl, vS_for, vS_raise, vS_pass, vS_brk, vS_cont, vB_nil, vB_cons, vI_each, vI_enum, vI_zip, vS_asgIx, vS_aug, each_tup, each_ref, enum_tup, enum_ref, zip_tup, zip_ref, aug_add, aug_sub, tg_name, tg_nil, tg_cons, o_add, o_addT, o_addL, o_addS, o_sub, o_mul, o_mulT, o_neB, o_isnotB, o_isB, o_fdiv, o_mod, o_pow, o_eqI, o_neI, o_lt, o_le, o_gt, o_ge, o_is, o_isnot, o_in, o_notin, f_abs, f_str, f_int, f_isi, f_len, f_tuple, f_list, asInt_int, ty_append, ty_extend, ty_update, ty_count, ty_index, Lit.d, truth_bl, truth_non, truth_int, truth_tup, seqD_tup, lenD_tup, tyD_bl, tyD_int, tyD_str, tyD_non, tyD_tup, List.getElem?_cons_zero, List.getElem?_cons_succ, List.set_cons_zero, List.set_cons_succ, Option.some.injEq, exists_eq_left', List.map_cons, List.map_nil, List.cons_append, List.nil_append, List.length_cons, List.length_nil, List.replicate, setAll, wipeD, if_true, if_false, Bool.false_eq_true, List.length_map]
          by_cases h60 : rw1.length ≤ 60
          · have d60 : decide (((rw1.length : Nat) : Int) ≤ 60) = true := decide_eq_true (by omega)
            simp only [d60, truth_bl, Option.some.injEq, exists_eq_left', if_true]
            simp only [b_law_21, vE_lit, vE_var, vE_bin, vE_neg, vE_not, vE_and, vE_or, vE_cmp, vE_chain, vE_ite, vE_tup, vE_lst, vE_dnew, vE_dnewT, vE_ddisT, vE_dget, vE_fld, vE_new, vE_mcall, vS_fset, vE_idx, vE_slc, vE_call, vE_bf, vE_meth, vE_comp, vE_dcomp, vO_none, vO_some, vC_none, vC_some, vA_nil, vA_cons, vI_rng1, vI_rng2, vS_expr, vS_asg, vS_par, vS_ret, vS_ifs, vS_whl, vS_for, vS_raise, vS_pass, vS_brk, vS_cont, vB_nil, vB_cons, vI_each, vI_enum, vI_zip, vS_asgIx, vS_aug, each_tup, each_ref, enum_tup, enum_ref, zip_tup, zip_ref, aug_add, aug_sub, tg_name, tg_nil, tg_cons, o_add, o_addT, o_addL, o_addS, o_sub, o_mul, o_mulT, o_neB, o_isnotB, o_isB, o_fdiv, o_mod, o_pow, o_eqI, o_neI, o_lt, o_le, o_gt, o_ge, o_is, o_isnot, o_in, o_notin, f_abs, f_str, f_int, f_isi, f_len, f_tuple, f_list, asInt_int, ty_append, ty_extend, ty_update, ty_count, ty_index, Lit.d, truth_bl, truth_non, truth_int, truth_tup, seqD_tup, lenD_tup, tyD_bl, tyD_int, tyD_str, tyD_non, tyD_tup, List.getElem?_cons_zero, List.getElem?_cons_succ, List.set_cons_zero, List.set_cons_succ, Option.some.injEq, exists_eq_left', List.map_cons, List.map_nil, List.cons_append, List.nil_append, List.length_cons, List.length_nil, List.replicate, setAll, wipeD, if_true, if_false, Bool.false_eq_true]
            intro p hp
            refine row_comp hp (by omega) (fun t h2 k hk => ?_) ?_
            · try simp only [vE_lit, vE_var, vE_bin, vE_neg, vE_not, vE_and, vE_or, vE_cmp, vE_chain, vE_ite, vE_tup, vE_lst, vE_dnew, vE_dnewT, vE_ddisT, vE_dget, vE_fld, vE_new, vE_mcall, vS_fset, vE_idx, vE_slc, vE_call, vE_bf, vE_meth, vE_comp, vE_dcomp, vO_none, vO_some, vC_none, vC_some, vA_nil, vA_cons, vI_rng1, vI_rng2, vS_expr, vS_asg, vS_par, vS_ret, vS_ifs, vS_whl, vS_for, vS_raise, vS_pass, vS_brk, vS_cont, vB_nil, vB_cons, vI_each, vI_enum, vI_zip, vS_asgIx, vS_aug, each_tup, each_ref, enum_tup, enum_ref, zip_tup, zip_ref, aug_add, aug_sub, tg_name, tg_nil, tg_cons, o_add, o_addT, o_addL, o_addS, o_sub, o_mul, o_mulT, o_neB, o_isnotB, o_isB, o_fdiv, o_mod, o_pow, o_eqI, o_neI, o_lt, o_le, o_gt, o_ge, o_is, o_isnot, o_in, o_notin, f_abs, f_str, f_int, f_isi, f_len, f_tuple, f_list, asInt_int, ty_append, ty_extend, ty_update, ty_count, ty_index, Lit.d, truth_bl, truth_non, truth_int, truth_tup, seqD_tup, lenD_tup, tyD_bl, tyD_int, tyD_str, tyD_non, tyD_tup, List.getElem?_cons_zero, List.getElem?_cons_succ, List.set_cons_zero, List.set_cons_succ, Option.some.injEq, exists_eq_left', List.map_cons, List.map_nil, List.cons_append, List.nil_append, List.length_cons, List.length_nil, List.replicate, setAll, wipeD, if_true, if_false, Bool.false_eq_true]
              exact ⟨by decide, hk⟩
            · intro h14 e14 hp14
              refine ⟨_, seqD_lst hp14, ?_⟩
              refine vF_of <| sp_drops hb hR ho h60 hall fun h15 e15 => ?_
              simp only [ix_tup, atI_1, Option.some.injEq, exists_eq_left', o_add, o_addT, o_addL, o_addS, o_sub, o_mul, o_mulT, o_neB, o_isnotB, o_isB, o_fdiv, o_mod, o_pow, o_eqI, o_neI, o_lt, o_le, o_gt, o_ge, o_is, o_isnot, o_in, o_notin, f_abs, f_str, f_int, f_isi, f_len, f_tuple, f_list, asInt_int, ty_append, ty_extend, ty_update, ty_count, ty_index, Lit.d, truth_bl, truth_non, truth_int, truth_tup, seqD_tup, lenD_tup, tyD_bl, tyD_int, tyD_str, tyD_non, tyD_tup, List.getElem?_cons_zero, List.getElem?_cons_succ, List.set_cons_zero, List.set_cons_succ, Option.some.injEq, exists_eq_left', List.map_cons, List.map_nil, List.cons_append, List.nil_append, List.length_cons, List.length_nil, List.replicate, setAll, wipeD, if_true, if_false, Bool.false_eq_true]
              rw [ef, o_neP (enc_ha.p _) (enc_ha.p _)]
              simp only [decide_true, Bool.not_true, truth_bl, Option.some.injEq, exists_eq_left', Bool.false_eq_true, if_false, vB_nil]
              exact hk2 _ _ ⟨⟨_, _, _, rfl⟩, (e1113.trans e14).trans e15⟩
          · have d60 : decide (((rw1.length : Nat) : Int) ≤ 60) = false := decide_eq_false (by omega)
            simp only [d60, truth_bl, Option.some.injEq, exists_eq_left', Bool.false_eq_true, if_false, vB_nil]
            exact hk2 _ _ ⟨⟨_, _, _, rfl⟩, e1113⟩
      · rintro σ' h' ⟨⟨o4, o5, o11, rfl⟩, e12⟩
        exact hk _ _ ⟨⟨_, _, _, _, _, _, _, _, _, _, rfl⟩, hh11.ext e12⟩
  · rintro σ' h' ⟨⟨o2, o3, o4, o5, o6, o7, o8, o9, o10, o11, rfl⟩, hh⟩
    simp only [b_law_23, vE_lit, vE_var, vE_bin, vE_neg, vE_not, vE_and, vE_or, vE_cmp, vE_chain, vE_ite, vE_tup, vE_lst, vE_dnew, vE_dnewT, vE_ddisT, vE_dget, vE_fld, vE_new, vE_mcall, vS_fset, vE_idx, vE_slc, vE_call, vE_bf, vE_meth, vE_comp, vE_dcomp, vO_none, vO_some, vC_none, vC_some, vA_nil, vA_cons, vI_rng1, vI_rng2, vS_expr, vS_asg, vS_par, vS_ret, vS_ifs, vS_whl, vS_for, vS_raise, vS_pass, vS_brk, vS_cont, vB_nil, vB_cons, vI_each, vI_enum, vI_zip, vS_asgIx, vS_aug, each_tup, each_ref, enum_tup, enum_ref, zip_tup, zip_ref, aug_add, aug_sub, tg_name, tg_nil, tg_cons, o_add, o_addT, o_addL, o_addS, o_sub, o_mul, o_mulT, o_neB, o_isnotB, o_isB, o_fdiv, o_mod, o_pow, o_eqI, o_neI, o_lt, o_le, o_gt, o_ge, o_is, o_isnot, o_in, o_notin, f_abs, f_str, f_int, f_isi, f_len, f_tuple, f_list, asInt_int, ty_append, ty_extend, ty_update, ty_count, ty_index, Lit.d, truth_bl, truth_non, truth_int, truth_tup, seqD_tup, lenD_tup, tyD_bl, tyD_int, tyD_str, tyD_non, tyD_tup, List.getElem?_cons_zero, List.getElem?_cons_succ, List.set_cons_zero, List.set_cons_succ, Option.some.injEq, exists_eq_left', List.map_cons, List.map_nil, List.cons_append, List.nil_append, List.length_cons, List.length_nil, List.replicate, setAll, wipeD, if_true, if_false, Bool.false_eq_true]
end Mp
open PySem PySem.W PyProof.Rows in
set_option maxHeartbeats 0 in
theorem PySem.Challenge.cw_arrivalboards_k83_whole_rows_of_drops_th_holds : PySem.Challenge.rw_arrivalboards_k83_whole_rows_of_drops_th.Holds := by
  w_on; o_law; k_head; (case hw => w_witness2)
  k_fill
  refine L2.walk_of (l := PySem.Challenge.rw_arrivalboards_k83_whole_rows_of_drops_th) (n := 63) (k := 8) (x := "script") (CX := fun _ => L2.CX0) (sp := fun w => Mp.spF ⟨_, w⟩ Mp.fn_law) rfl (by decide) rfl ⟨rfl, by decide, by decide⟩ (fun w h Y => PySem.W.kIn_of Y) ?F (fun _ _ a ns hl hO hS => Mp.law_start hO hS (Mp.law_pure ns hl)) (fun _ _ _ _ _ h => h)
  case F =>
    intro w mg fa h KX G hmg
    refine' Mp.all_mk KX G hmg ?bi ?d__law_hand ?d__law_draw ?d__law_place ?d__law_board ?d__law_hands ?d__law_lost ?d__law_way ?d__law_drop ?d__law_going ?d__law_rests ?d_is_tuple_of ?d_is_integer ?d_is_within ?d_is_place_of ?d_is_board ?d_check_board ?d_raw_is_hands ?d_check_hands ?d_is_switch ?d_check_switch ?d_raw_is_place ?d_raw_lost ?d_raw_all_rests ?d_check_rest ?d_raw_rests ?d_raw_run ?d_raw_comes ?d_first_drop ?d__law_first ?d_Going_is_over ?d_Going_next_level ?d_Going___init__ ?d_shortest_row ?d_are_few_places ?d_raw_whole ?d_raw_drops ?d_drops ?d_hands_led_to ?d__law_any ?d_row_to ?d_law ?c_CUP_boards ?c_CUP_wishes ?c_MOST_CUPS ?c_MOST_DROPS_running ?c_MOST_DROPS_wishes ?c_MOST_EXITS ?c_MOST_HANDS ?c_MOST_MOVES_running ?c_MOST_MOVES_wishes ?c_MOST_SWITCHES ?c_SWITCH_boards ?c_SWITCH_wishes ?k_Going
    (case bi => refine' Mp.bi_mk ?z0 ?z1 ?z2 ?z3 ?z4 ?z5 ?z6 ?z7 ?z8 ?z9 ?z10 ?z11 ?z12 ?z13 ?z14 ?z15 ?z16 ?z17; (case z0 => k_is); (case z1 => k_is); (case z2 => k_is); (case z3 => k_is); (case z4 => k_is); (case z5 => k_is); (case z6 => k_is); (case z7 => k_is); (case z8 => k_is); (case z9 => k_is); (case z10 => k_is); (case z11 => k_is); (case z12 => k_is); (case z13 => k_is); (case z14 => k_is); (case z15 => k_is); (case z16 => k_is); (case z17 => k_is))
    (case k_Going => refine' Mp.ClsF.mk ?a ?pg ?hd ?po ?sa ?mk ?kc (Mp.NoAttr.cons ?n1 (Mp.NoAttr.cons ?n2 (Mp.NoAttr.cons ?n3 Mp.NoAttr.nil))); (case a => k_is); (case pg => k_is); (case hd => k_is); (case po => k_is); (case sa => k_is); (case mk => k_is); (case kc => k_is); (case n1 => k_is); (case n2 => k_is); (case n3 => k_is))
    (case d_Going_is_over => refine' Mp.MethAt.mk ?n ?a ?i ?l ?c ?k; (case n => k_is); (case a => k_is); (case i => k_is); (case l => k_is); (case c => k_is); (case k => k_is))
    (case d_Going_next_level => refine' Mp.MethAt.mk ?n ?a ?i ?l ?c ?k; (case n => k_is); (case a => k_is); (case i => k_is); (case l => k_is); (case c => k_is); (case k => k_is))
    (case d_Going___init__ => refine' Mp.MethAt.mk ?n ?a ?i ?l ?c ?k; (case n => k_is); (case a => k_is); (case i => k_is); (case l => k_is); (case c => k_is); (case k => k_is))
    (case d__law_hand => refine' Mp.DefAt.mk ?a ?l ?c ?k; (case a => k_is); (case l => k_is); (case c => k_is); (case k => k_is))
    (case d__law_draw => refine' Mp.DefAt.mk ?a ?l ?c ?k; (case a => k_is); (case l => k_is); (case c => k_is); (case k => k_is))
    (case d__law_place => refine' Mp.DefAt.mk ?a ?l ?c ?k; (case a => k_is); (case l => k_is); (case c => k_is); (case k => k_is))
    (case d__law_board => refine' Mp.DefAt.mk ?a ?l ?c ?k; (case a => k_is); (case l => k_is); (case c => k_is); (case k => k_is))
    (case d__law_hands => refine' Mp.DefAt.mk ?a ?l ?c ?k; (case a => k_is); (case l => k_is); (case c => k_is); (case k => k_is))
    (case d__law_lost => refine' Mp.DefAt.mk ?a ?l ?c ?k; (case a => k_is); (case l => k_is); (case c => k_is); (case k => k_is))
    (case d__law_way => refine' Mp.DefAt.mk ?a ?l ?c ?k; (case a => k_is); (case l => k_is); (case c => k_is); (case k => k_is))
    (case d__law_drop => refine' Mp.DefAt.mk ?a ?l ?c ?k; (case a => k_is); (case l => k_is); (case c => k_is); (case k => k_is))
    (case d__law_going => refine' Mp.DefAt.mk ?a ?l ?c ?k; (case a => k_is); (case l => k_is); (case c => k_is); (case k => k_is))
    (case d__law_rests => refine' Mp.DefAt.mk ?a ?l ?c ?k; (case a => k_is); (case l => k_is); (case c => k_is); (case k => k_is))
    (case d_is_tuple_of => refine' Mp.DefAt.mk ?a ?l ?c ?k; (case a => k_is); (case l => k_is); (case c => k_is); (case k => k_is))
    (case d_is_integer => refine' Mp.DefAt.mk ?a ?l ?c ?k; (case a => k_is); (case l => k_is); (case c => k_is); (case k => k_is))
    (case d_is_within => refine' Mp.DefAt.mk ?a ?l ?c ?k; (case a => k_is); (case l => k_is); (case c => k_is); (case k => k_is))
    (case d_is_place_of => refine' Mp.DefAt.mk ?a ?l ?c ?k; (case a => k_is); (case l => k_is); (case c => k_is); (case k => k_is))
    (case d_is_board => refine' Mp.DefAt.mk ?a ?l ?c ?k; (case a => k_is); (case l => k_is); (case c => k_is); (case k => k_is))
    (case d_check_board => refine' Mp.DefAt.mk ?a ?l ?c ?k; (case a => k_is); (case l => k_is); (case c => k_is); (case k => k_is))
    (case d_raw_is_hands => refine' Mp.DefAt.mk ?a ?l ?c ?k; (case a => k_is); (case l => k_is); (case c => k_is); (case k => k_is))
    (case d_check_hands => refine' Mp.DefAt.mk ?a ?l ?c ?k; (case a => k_is); (case l => k_is); (case c => k_is); (case k => k_is))
    (case d_is_switch => refine' Mp.DefAt.mk ?a ?l ?c ?k; (case a => k_is); (case l => k_is); (case c => k_is); (case k => k_is))
    (case d_check_switch => refine' Mp.DefAt.mk ?a ?l ?c ?k; (case a => k_is); (case l => k_is); (case c => k_is); (case k => k_is))
    (case d_raw_is_place => refine' Mp.DefAt.mk ?a ?l ?c ?k; (case a => k_is); (case l => k_is); (case c => k_is); (case k => k_is))
    (case d_raw_lost => refine' Mp.DefAt.mk ?a ?l ?c ?k; (case a => k_is); (case l => k_is); (case c => k_is); (case k => k_is))
    (case d_raw_all_rests => refine' Mp.DefAt.mk ?a ?l ?c ?k; (case a => k_is); (case l => k_is); (case c => k_is); (case k => k_is))
    (case d_check_rest => refine' Mp.DefAt.mk ?a ?l ?c ?k; (case a => k_is); (case l => k_is); (case c => k_is); (case k => k_is))
    (case d_raw_rests => refine' Mp.DefAt.mk ?a ?l ?c ?k; (case a => k_is); (case l => k_is); (case c => k_is); (case k => k_is))
    (case d_raw_run => refine' Mp.DefAt.mk ?a ?l ?c ?k; (case a => k_is); (case l => k_is); (case c => k_is); (case k => k_is))
    (case d_raw_comes => refine' Mp.DefAt.mk ?a ?l ?c ?k; (case a => k_is); (case l => k_is); (case c => k_is); (case k => k_is))
    (case d_first_drop => refine' Mp.DefAt.mk ?a ?l ?c ?k; (case a => k_is); (case l => k_is); (case c => k_is); (case k => k_is))
    (case d__law_first => refine' Mp.DefAt.mk ?a ?l ?c ?k; (case a => k_is); (case l => k_is); (case c => k_is); (case k => k_is))
    (case d_shortest_row => refine' Mp.DefAt.mk ?a ?l ?c ?k; (case a => k_is); (case l => k_is); (case c => k_is); (case k => k_is))
    (case d_are_few_places => refine' Mp.DefAt.mk ?a ?l ?c ?k; (case a => k_is); (case l => k_is); (case c => k_is); (case k => k_is))
    (case d_raw_whole => refine' Mp.DefAt.mk ?a ?l ?c ?k; (case a => k_is); (case l => k_is); (case c => k_is); (case k => k_is))
    (case d_raw_drops => refine' Mp.DefAt.mk ?a ?l ?c ?k; (case a => k_is); (case l => k_is); (case c => k_is); (case k => k_is))
    (case d_drops => refine' Mp.DefAt.mk ?a ?l ?c ?k; (case a => k_is); (case l => k_is); (case c => k_is); (case k => k_is))
    (case d_hands_led_to => refine' Mp.DefAt.mk ?a ?l ?c ?k; (case a => k_is); (case l => k_is); (case c => k_is); (case k => k_is))
    (case d__law_any => refine' Mp.DefAt.mk ?a ?l ?c ?k; (case a => k_is); (case l => k_is); (case c => k_is); (case k => k_is))
    (case d_row_to => refine' Mp.DefAt.mk ?a ?l ?c ?k; (case a => k_is); (case l => k_is); (case c => k_is); (case k => k_is))
    (case d_law => refine' Mp.DefAt.mk ?a ?l ?c ?k; (case a => k_is); (case l => k_is); (case c => k_is); (case k => k_is))
    (case c_CUP_boards => refine' Mp.ConAt.str ?a ?e; (case a => k_is); (case e => decide +kernel))
    (case c_CUP_wishes => refine' Mp.ConAt.str ?a ?e; (case a => k_is); (case e => decide +kernel))
    (case c_MOST_CUPS => refine' Mp.ConAt.int ?a; (case a => k_is))
    (case c_MOST_DROPS_running => refine' Mp.ConAt.int ?a; (case a => k_is))
    (case c_MOST_DROPS_wishes => refine' Mp.ConAt.int ?a; (case a => k_is))
    (case c_MOST_EXITS => refine' Mp.ConAt.int ?a; (case a => k_is))
    (case c_MOST_HANDS => refine' Mp.ConAt.int ?a; (case a => k_is))
    (case c_MOST_MOVES_running => refine' Mp.ConAt.int ?a; (case a => k_is))
    (case c_MOST_MOVES_wishes => refine' Mp.ConAt.int ?a; (case a => k_is))
    (case c_MOST_SWITCHES => refine' Mp.ConAt.int ?a; (case a => k_is))
    (case c_SWITCH_boards => refine' Mp.ConAt.str ?a ?e; (case a => k_is); (case e => decide +kernel))
    (case c_SWITCH_wishes => refine' Mp.ConAt.str ?a ?e; (case a => k_is); (case e => decide +kernel))
